import PyProof.Rows.All
import HandS.List
import HandS.Comp
import HandS.Call
import HandS.Words
import HandS.Wide
import HandS.WideBits
import HandS.TupAny
import HandS.TupMul
import HandS.Style
import HandS.IsInst
import HandS.RaiseMore
import HandS.Walk
import HandS.Zip
import KE.GoesMore
import KE.GoesEnum
import HandS.Ends
import PySem.Challenge.RW_movingup_k03_paths_and_posts
set_option Elab.async false
set_option linter.all false
/-! MPy: a small functional reading of the Python text: values, a heap that is a list, and one combinator for each construct. -/
namespace MP
open PySem
/-- a value: tuples, and lists that are only read (the script), are told whole; other objects by their place in the heap -/
inductive MV where
  | non | bl (b : Bool) | int (i : Int) | str (x : Str) | ref (i : Nat) | tup (xs : List MV) | fro (xs : List MV)
deriving Inhabited
mutual
def MV.beq : MV → MV → Bool
  | .non, .non => true
  | .bl a, .bl b => a == b
  | .int i, .int j => decide (i = j)
  | .str x, .str y => decide (x = y)
  | .ref i, .ref j => decide (i = j)
  | .tup xs, .tup ys => MV.beqs xs ys
  | .fro xs, .fro ys => MV.beqs xs ys
  | _, _ => false
def MV.beqs : List MV → List MV → Bool
  | [], [] => true
  | x :: xs, y :: ys => MV.beq x y && MV.beqs xs ys
  | _, _ => false
end
mutual
theorem MV.beq_iff : ∀ a b : MV, MV.beq a b = true ↔ a = b
  | .non, b => by cases b <;> simp [MV.beq]
  | .bl a, b => by cases b <;> simp [MV.beq]
  | .int i, b => by cases b <;> simp [MV.beq]
  | .str x, b => by cases b <;> simp [MV.beq]
  | .ref i, b => by cases b <;> simp [MV.beq]
  | .tup xs, b => by
    cases b with
    | tup ys => simp only [MV.beq, MV.tup.injEq]; exact MV.beqs_iff xs ys
    | _ => simp [MV.beq]
  | .fro xs, b => by
    cases b with
    | fro ys => simp only [MV.beq, MV.fro.injEq]; exact MV.beqs_iff xs ys
    | _ => simp [MV.beq]
theorem MV.beqs_iff : ∀ a b : List MV, MV.beqs a b = true ↔ a = b
  | [], b => by cases b <;> simp [MV.beqs]
  | x :: xs, b => by
    cases b with
    | nil => simp [MV.beqs]
    | cons y ys => simp only [MV.beqs, Bool.and_eq_true, List.cons.injEq, MV.beq_iff x y, MV.beqs_iff xs ys]
end
instance : DecidableEq MV := fun a b => if h : MV.beq a b = true then isTrue ((MV.beq_iff a b).mp h) else isFalse fun e => h ((MV.beq_iff a b).mpr e)
/-- what stands in the heap: a list, a dict (keys ints and texts; keys tuples of these), an instance -/
inductive MO where
  | lst (xs : List MV) | dct (kvs : List (L2.Key × MV)) | dctT (kvs : List (List L2.Key × MV)) | ins (c : Nat) (fs : List (Nat × MV))
deriving DecidableEq, Inhabited
abbrev MH := List MO
abbrev Env := List (Option MV)
inductive Res (α : Type) where
  | ok (a : α) (m : MH) | exc (c : Nat) (v : MV) (m : MH) | bad
def Res.bind {α β : Type} (r : Res α) (f : α → MH → Res β) : Res β :=
  match r with
  | .ok a m => f a m
  | .exc c v m => .exc c v m
  | .bad => .bad
section
variable {α β : Type} (a : α) (m : MH) (f : α → MH → Res β)
@[simp] theorem bind_ok : (Res.ok a m).bind f = f a m := rfl
@[simp] theorem bind_exc (c v) : (Res.exc c v m : Res α).bind f = .exc c v m := rfl
@[simp] theorem bind_bad : (Res.bad : Res α).bind f = .bad := rfl
end
inductive Flow where
  | nx (s : Env) | rt (v : MV) | bk (s : Env) | ct (s : Env)
abbrev ES := Env → MH → Res MV
abbrev TSm := Env → MH → Res Bool
abbrev LS := Env → MH → Res (List MV)
abbrev SS := Env → MH → Res Flow
/-- sizes that the model bears -/
def big : Nat := 1000000
/-! ### expressions -/
def eV (i : Nat) : ES := fun s m => match s[i]? with
  | some (some v) => .ok v m
  | _ => .bad
def eC (v : MV) : ES := fun _ m => .ok v m
def e1 (g : MH → MV → Res MV) (a : ES) : ES := fun s m => (a s m).bind fun v m1 => g m1 v
def e2 (g : MH → MV → MV → Res MV) (a b : ES) : ES := fun s m => (a s m).bind fun v m1 => (b s m1).bind fun u m2 => g m2 v u
def lNil : LS := fun _ m => .ok [] m
def lCons (a : ES) (r : LS) : LS := fun s m => (a s m).bind fun v m1 => (r s m1).bind fun vs m2 => .ok (v :: vs) m2
def eL (g : MH → List MV → Res MV) (a : LS) : ES := fun s m => (a s m).bind fun vs m1 => g m1 vs
def eTup (a : LS) : ES := eL (fun m vs => if vs.length ≤ big then .ok (.tup vs) m else .bad) a
def new (o : MO) (m : MH) : Res MV := .ok (.ref m.length) (m ++ [o])
def eLst (a : LS) : ES := eL (fun m vs => if vs.length ≤ big then new (.lst vs) m else .bad) a
/-! tests -/
def tV (a : ES) : TSm := fun s m => (a s m).bind fun v m1 => match v with
  | .bl b => .ok b m1
  | _ => .bad
def tNot (a : TSm) : TSm := fun s m => (a s m).bind fun b m1 => .ok (!b) m1
def tAnd (a b : TSm) : TSm := fun s m => (a s m).bind fun c m1 => if c = true then b s m1 else .ok false m1
def tOr (a b : TSm) : TSm := fun s m => (a s m).bind fun c m1 => if c = true then .ok true m1 else b s m1
def eAnd (a b : ES) : ES := fun s m => (a s m).bind fun v m1 => match v with
  | .bl c => if c = true then b s m1 else .ok (.bl false) m1
  | _ => .bad
def eOr (a b : ES) : ES := fun s m => (a s m).bind fun v m1 => match v with
  | .bl c => if c = true then .ok (.bl true) m1 else b s m1
  | _ => .bad
def eNot (a : ES) : ES := fun s m => (a s m).bind fun v m1 => match v with
  | .bl c => .ok (.bl (!c)) m1
  | _ => .bad
def eIf (c : TSm) (a b : ES) : ES := fun s m => (c s m).bind fun b' m1 => if b' = true then a s m1 else b s m1
/-! ### what an operation does -/
def lstOf (m : MH) (p : Nat) : Option (List MV) := match m[p]? with
  | some (.lst xs) => some xs
  | _ => none
/-- a sequence that is read -/
def seqOf (m : MH) : MV → Option (List MV)
  | .tup xs => some xs
  | .fro xs => some xs
  | .ref p => lstOf m p
  | _ => none
def add (m : MH) : MV → MV → Res MV
  | .int i, .int j => .ok (.int (i + j)) m
  | .str a, .str b => if a.length + b.length ≤ big then .ok (.str (a ++ b)) m else .bad
  | .tup a, .tup b => if a.length + b.length ≤ big then .ok (.tup (a ++ b)) m else .bad
  | .ref p, .ref q => match lstOf m p, lstOf m q with
    | some a, some b => if a.length + b.length ≤ big then new (.lst (a ++ b)) m else .bad
    | _, _ => .bad
  | _, _ => .bad
def sub (m : MH) : MV → MV → Res MV
  | .int i, .int j => .ok (.int (i - j)) m
  | _, _ => .bad
def bits (i : Int) (n : Nat) : Bool := decide (i.natAbs < 2 ^ n)
/-- ints that are multiplied, divided by, raised: below this size -/
def small (i : Int) : Bool := bits i 5000
def mul (m : MH) : MV → MV → Res MV
  | .int i, .int j => if small i && small j then .ok (.int (i * j)) m else .bad
  | .tup a, .int k => if 0 ≤ k ∧ k ≤ 1000 ∧ a.length ≤ 1000 then .ok (.tup (List.replicate k.toNat a).flatten) m else .bad
  | .ref p, .int k => match lstOf m p with
    | some a => if 0 ≤ k ∧ k ≤ 1000 ∧ a.length ≤ 1000 then new (.lst (List.replicate k.toNat a).flatten) m else .bad
    | none => .bad
  | _, _ => .bad
def pow (m : MH) : MV → MV → Res MV
  | .int i, .int j => if 0 ≤ j ∧ j ≤ 1000 ∧ small i = true then .ok (.int (i ^ j.toNat)) m else .bad
  | _, _ => .bad
def md (m : MH) : MV → MV → Res MV
  | .int i, .int j => if 0 < j then .ok (.int (i % j)) m else .bad
  | _, _ => .bad
def fdiv (m : MH) : MV → MV → Res MV
  | .int i, .int j => if 0 < j ∧ small j = true then .ok (.int (i / j)) m else .bad
  | _, _ => .bad
def cmpI (f : Int → Int → Bool) (m : MH) : MV → MV → Res MV
  | .int i, .int j => .ok (.bl (f i j)) m
  | _, _ => .bad
def lt := cmpI fun i j => decide (i < j)
def le := cmpI fun i j => decide (i ≤ j)
def gt := cmpI fun i j => decide (j < i)
def ge := cmpI fun i j => decide (j ≤ i)
def neg (m : MH) : MV → Res MV
  | .int i => .ok (.int (-i)) m
  | _ => .bad
def isN (m : MH) (v : MV) : Res MV := .ok (.bl (decide (v = .non))) m
def notN (m : MH) (v : MV) : Res MV := .ok (.bl (!decide (v = .non))) m
/-- data, to a depth -/
def toD (m : MH) : Nat → MV → Option PyData
  | 0, _ => none
  | n + 1, .non => some .none
  | n + 1, .bl b => some (.bool b)
  | n + 1, .int i => some (.int i)
  | n + 1, .str x => some (.str x)
  | n + 1, .tup xs => (xs.mapM (toD m n)).map .tuple
  | n + 1, .fro xs => (xs.mapM (toD m n)).map .list
  | n + 1, .ref p => match lstOf m p with
    | some xs => (xs.mapM (toD m n)).map .list
    | none => none
def dEq (m : MH) (a b : MV) : Option Bool := match toD m 20 a, toD m 20 b with
  | some d, some e => if SeqAt.shaped d && SeqAt.shaped e then some (PyData.eqv d e) else none
  | _, _ => none
def eq (m : MH) (a b : MV) : Res MV := match dEq m a b with
  | some c => .ok (.bl c) m
  | none => .bad
def ne (m : MH) (a b : MV) : Res MV := match dEq m a b with
  | some c => .ok (.bl (!c)) m
  | none => .bad
def ix (m : MH) (a i : MV) : Res MV := match seqOf m a, i with
  | some xs, .int i => match L2.atI xs i with
    | some v => .ok v m
    | none => .bad
  | _, _ => .bad
def flat : MV → Bool
  | .non | .bl _ | .int _ | .str _ => true
  | _ => false
/-- x in xs, of flat things -/
def vEq : MV → MV → Bool
  | .non, .non => true
  | .bl a, .bl b => a == b
  | .bl a, .int j => (if a then 1 else 0) == j
  | .int i, .bl b => i == (if b then 1 else 0)
  | .int i, .int j => i == j
  | .str x, .str y => x == y
  | _, _ => false
def inn (m : MH) (a b : MV) : Res MV := match seqOf m b with
  | some xs => if flat a && xs.all flat then .ok (.bl (xs.any fun x => vEq x a)) m else .bad
  | none => .bad
def notInn (m : MH) (a b : MV) : Res MV := match seqOf m b with
  | some xs => if flat a && xs.all flat then .ok (.bl (!(xs.any fun x => vEq x a))) m else .bad
  | none => .bad
/-! ### slices -/
def cut (xs : List MV) (lo hi : Option Int) : List MV := (xs.drop (HT.sIx xs.length 0 lo)).take (HT.sIx xs.length xs.length hi - HT.sIx xs.length 0 lo)
abbrev OS := Env → MH → Res (Option Int)
def oNone : OS := fun _ m => .ok none m
def oSome (a : ES) : OS := fun s m => (a s m).bind fun v m1 => match v with
  | .int i => .ok (some i) m1
  | _ => .bad
def slc (m : MH) (a : MV) (lo hi : Option Int) : Res MV := match a with
  | .tup xs => .ok (.tup (cut xs lo hi)) m
  | .fro xs => new (.lst (cut xs lo hi)) m
  | .ref p => match lstOf m p with
    | some xs => new (.lst (cut xs lo hi)) m
    | none => .bad
  | _ => .bad
def eSlice (a : ES) (lo hi : OS) : ES := fun s m => (a s m).bind fun v m1 => (lo s m1).bind fun l m2 => (hi s m2).bind fun h m3 => slc m3 v l h
/-- a[::-1] -/
def eRev (a : ES) : ES := fun s m => (a s m).bind fun v m1 => match v with
  | .ref p => match lstOf m1 p with
    | some xs => new (.lst xs.reverse) m1
    | none => .bad
  | _ => .bad
/-! ### fields -/
/-- the field k of an instance of one of the classes cs -/
def fld (cs : List Nat) (k : Nat) (m : MH) : MV → Res MV
  | .ref p => match m[p]? with
    | some (.ins c fs) => if c ∈ cs then (match fs.lookup k with
      | some v => .ok v m
      | none => .bad) else .bad
    | _ => .bad
  | _ => .bad
def eFld (cs : List Nat) (k : Nat) (a : ES) : ES := e1 (fld cs k) a
def putN (k : Nat) (v : MV) : List (Nat × MV) → List (Nat × MV)
  | [] => [(k, v)]
  | (j, u) :: r => if j = k then (j, v) :: r else (j, u) :: putN k v r
/-! ### statements -/
def sNil : SS := fun s m => .ok (.nx s) m
def sCons (a b : SS) : SS := fun s m => (a s m).bind fun f m1 => match f with
  | .nx s1 => b s1 m1
  | f => .ok f m1
def sRet (a : ES) : SS := fun s m => (a s m).bind fun v m1 => .ok (.rt v) m1
def sRetN : SS := fun _ m => .ok (.rt .non) m
def sDrop (a : ES) : SS := fun s m => (a s m).bind fun _ m1 => .ok (.nx s) m1
def sIf (c : TSm) (a b : SS) : SS := fun s m => (c s m).bind fun t m1 => if t = true then a s m1 else b s m1
def sPass : SS := fun s m => .ok (.nx s) m
def sBreak : SS := fun s m => .ok (.bk s) m
def sCont : SS := fun s m => .ok (.ct s) m
/-- a statement that is never come to -/
def sNever : SS := fun _ _ => .bad
/-- a target: what it does with a value -/
abbrev GS := MV → Env → MH → Res Env
def gN (i : Nat) : GS := fun v s m => .ok (s.set i (some v)) m
def gsNil : List MV → Env → MH → Res Env := fun vs s m => match vs with
  | [] => .ok s m
  | _ => .bad
def gsCons (g : GS) (r : List MV → Env → MH → Res Env) : List MV → Env → MH → Res Env := fun vs s m => match vs with
  | v :: vs => (g v s m).bind fun s1 m1 => r vs s1 m1
  | [] => .bad
def gTup (n : Nat) (g : List MV → Env → MH → Res Env) : GS := fun v s m => match v with
  | .tup xs => if xs.length = n then g xs s m else .bad
  | _ => .bad
def setIx (m : MH) (o i v : MV) : Res Unit := match o, i with
  | .ref p, .int i => match lstOf m p with
    | some xs => match L2.ixN xs.length i with
      | some k => .ok () (m.set p (.lst (xs.set k v)))
      | none => .bad
    | none => .bad
  | _, _ => .bad
def gSub (o i : ES) : GS := fun v s m => (o s m).bind fun a m1 => (i s m1).bind fun b m2 => (setIx m2 a b v).bind fun _ m3 => .ok s m3
def sAsg (a : ES) (g : GS) : SS := fun s m => (a s m).bind fun v m1 => (g v s m1).bind fun s1 m2 => .ok (.nx s1) m2
def putFld (cs : List Nat) (k : Nat) (v : MV) (m : MH) : MV → Res Unit
  | .ref p => match m[p]? with
    | some (.ins c fs) => if c ∈ cs ∧ fs.length < 900 then .ok () (m.set p (.ins c (putN k v fs))) else .bad
    | _ => .bad
  | _ => .bad
def sFld (cs : List Nat) (o : ES) (k : Nat) (a : ES) : SS := fun s m => (a s m).bind fun v m1 => (o s m1).bind fun x m2 => (putFld cs k v m2 x).bind fun _ m3 => .ok (.nx s) m3
/-- a, b = x, y: plain names, stored from the right -/
def sPar (i j : Nat) (a b : ES) : SS := fun s m => (a s m).bind fun v m1 => (b s m1).bind fun u m2 => .ok (.nx ((s.set i (some v)).set j (some u))) m2
def sAug (i : Nat) (g : MH → MV → MV → Res MV) (a : ES) : SS := fun s m => match s[i]? with
  | some (some x) => (a s m).bind fun y m1 => (g m1 x y).bind fun z m2 => .ok (.nx (s.set i (some z))) m2
  | _ => .bad
/-! ### loops -/
def whileL (c : TSm) (b : SS) : Nat → SS
  | 0 => fun _ _ => .bad
  | n + 1 => fun s m => (c s m).bind fun t m1 => if t = true then
      (b s m1).bind fun f m2 => match f with
        | .nx s2 => whileL c b n s2 m2
        | .ct s2 => whileL c b n s2 m2
        | .bk s2 => .ok (.nx s2) m2
        | .rt v => .ok (.rt v) m2
    else .ok (.nx s) m1
@[irreducible] def loops : Nat := 1000000000000
def sWhile (c : TSm) (b : SS) : SS := whileL c b loops
/-- what is walked: the items, and the list that must stand still meanwhile -/
abbrev Guard := Option (Nat × List MV)
def Guard.ok (g : Guard) (m : MH) : Bool := match g with
  | none => true
  | some (p, xs) => match m[p]? with
    | some (.lst ys) => decide (ys = xs)
    | _ => false
abbrev IS := Env → MH → Res (List MV × Guard)
def iSeq (a : ES) : IS := fun s m => (a s m).bind fun v m1 => match v with
  | .tup xs => .ok (xs, none) m1
  | .fro xs => .ok (xs, none) m1
  | .ref p => match lstOf m1 p with
    | some xs => .ok (xs, some (p, xs)) m1
    | none => .bad
  | _ => .bad
def upto (lo : Int) : Nat → List MV
  | 0 => []
  | n + 1 => .int lo :: upto (lo + 1) n
def iRange1 (a : ES) : IS := fun s m => (a s m).bind fun v m1 => match v with
  | .int n => if bits n 60 = true then .ok (upto 0 n.toNat, none) m1 else .bad
  | _ => .bad
def iRange2 (a b : ES) : IS := fun s m => (a s m).bind fun v m1 => (b s m1).bind fun u m2 => match v, u with
  | .int l, .int n => if bits l 60 && bits n 60 then .ok (upto l (n - l).toNat, none) m2 else .bad
  | _, _ => .bad
def enumF (i : Nat) : List MV → List MV
  | [] => []
  | x :: r => .tup [.int i, x] :: enumF (i + 1) r
def iEnum (a : ES) : IS := fun s m => (iSeq a s m).bind fun p m1 => .ok (enumF 0 p.1, p.2) m1
def forL (gd : Guard) (g : GS) (b : SS) : List MV → SS
  | [] => fun s m => if gd.ok m = true then .ok (.nx s) m else .bad
  | x :: r => fun s m => if gd.ok m = true then (g x s m).bind fun s1 m1 => (b s1 m1).bind fun f m2 => match f with
      | .nx s2 => forL gd g b r s2 m2
      | .ct s2 => forL gd g b r s2 m2
      | .bk s2 => .ok (.nx s2) m2
      | .rt v => .ok (.rt v) m2
    else .bad
def sFor (it : IS) (g : GS) (b : SS) : SS := fun s m => (it s m).bind fun p m1 => forL p.2 g b p.1 s m1
def wipe (s : Env) : List Nat → Env
  | [] => s
  | v :: vs => (wipe s vs).set v none
/-- a list comprehension's turns: D the new list -/
def lcL (gd : Guard) (g : GS) (c : TSm) (a : ES) (D : Nat) (s : Env) : List MV → MH → Res Unit
  | [] => fun m => if gd.ok m = true then .ok () m else .bad
  | x :: r => fun m => if gd.ok m = true then (g x s m).bind fun s1 m1 => (c s1 m1).bind fun t m2 => if t = true then
      (a s1 m2).bind fun v m3 => match m3[D]? with
        | some (.lst acc) => if acc.length < big then lcL gd g c a D s r (m3.set D (.lst (acc ++ [v]))) else .bad
        | _ => .bad
      else lcL gd g c a D s r m2
    else .bad
def tYes : TSm := fun _ m => .ok true m
def eLc (it : IS) (g : GS) (c : TSm) (a : ES) (vs : List Nat) : ES := fun s m => (it s m).bind fun p m1 =>
  (lcL p.2 g c a m1.length (wipe s vs) p.1 (m1 ++ [.lst []])).bind fun _ m2 => .ok (.ref m1.length) m2
/-! ### built-ins and methods -/
def tyName (m : MH) : MV → Option String
  | .non => some "NoneType"
  | .bl _ => some "bool"
  | .int _ => some "int"
  | .str _ => some "str"
  | .tup _ => some "tuple"
  | .fro _ => some "list"
  | .ref p => match m[p]? with
    | some (.lst _) => some "list"
    | some (.dct _) => some "dict"
    | some (.dctT _) => some "dict"
    | _ => none
/-- isinstance of built-in types -/
def isT (a b : String) : Bool := a == b || (a == "bool" && b == "int")
def isi (T : String) (m : MH) (v : MV) : Res MV := match tyName m v with
  | some n => .ok (.bl (isT n T)) m
  | none => .bad
def len (m : MH) : List MV → Res MV
  | [.str x] => if x.length ≤ big then .ok (.int x.length) m else .bad
  | [.tup xs] => .ok (.int xs.length) m
  | [.fro xs] => .ok (.int xs.length) m
  | [.ref p] => match m[p]? with
    | some (.lst xs) => .ok (.int xs.length) m
    | _ => .bad
  | _ => .bad
def max2 (m : MH) : List MV → Res MV
  | [.int i, .int j] => .ok (.int (if j > i then j else i)) m
  | _ => .bad
def min2 (m : MH) : List MV → Res MV
  | [.int i, .int j] => .ok (.int (if j < i then j else i)) m
  | _ => .bad
def toInt (m : MH) : List MV → Res MV
  | [.int i] => .ok (.int i) m
  | [.bl k] => .ok (.int (if k then 1 else 0)) m
  | _ => .bad
def toStr (m : MH) : List MV → Res MV
  | [.int i] => if bits i 1000 = true then .ok (.str (toString i : String)) m else .bad
  | _ => .bad
def toTup (m : MH) : List MV → Res MV
  | [v] => match seqOf m v with
    | some xs => .ok (.tup xs) m
    | none => .bad
  | _ => .bad
def toLst (m : MH) : List MV → Res MV
  | [v] => match seqOf m v with
    | some xs => new (.lst xs) m
    | none => .bad
  | _ => .bad
/-- o.m(..), a built-in's method: T the receiver's type -/
def eBm (T : String) (g : MH → MV → List MV → Res MV) (o : ES) (a : LS) : ES := fun s m => (o s m).bind fun v m1 => if tyName m1 v = some T then (a s m1).bind fun vs m2 => g m2 v vs else .bad
def append (m : MH) (o : MV) : List MV → Res MV
  | [v] => match o with
    | .ref p => match lstOf m p with
      | some xs => if xs.length < big then .ok .non (m.set p (.lst (xs ++ [v]))) else .bad
      | none => .bad
    | _ => .bad
  | _ => .bad
def eBits (a : ES) : ES := fun s m => (a s m).bind fun v m1 => match v with
  | .int i => .ok (.int (Builtin.Int.intBits i : Nat)) m1
  | _ => .bad
/-! ### calls -/
/-- how the program's own defs are called: by number -/
abbrev Calls := Nat → List MV → MH → Res MV
def eCall (C : Calls) (f n : Nat) (ds : List MV) (a : LS) : ES := eL (fun m vs => if (vs ++ ds).length = n then C f (vs ++ ds) m else .bad) a
/-- o.m(..): the method by number, of the class c -/
def eMeth (C : Calls) (c f n : Nat) (ds : List MV) (o : ES) (a : LS) : ES := fun s m => (o s m).bind fun x m1 => match x with
  | .ref p => match m1[p]? with
    | some (.ins c' _) => if c' = c then (a s m1).bind fun vs m2 => if (x :: (vs ++ ds)).length = n then C f (x :: (vs ++ ds)) m2 else .bad else .bad
    | _ => .bad
  | _ => .bad
/-- C(..): a new instance, then its __init__ -/
def eMake (C : Calls) (c f n : Nat) (ds : List MV) (a : LS) : ES := fun s m => (a s m).bind fun vs m1 => if (vs ++ ds).length + 1 = n then (C f (.ref m1.length :: (vs ++ ds)) (m1 ++ [.ins c []])).bind fun v m2 => (match v with
  | .non => .ok (.ref m1.length) m2
  | _ => .bad) else .bad
/-- a def's body, called -/
def callB (n : Nat) (b : SS) : List MV → MH → Res MV := fun vs m => (b ((vs.map some) ++ List.replicate (n - vs.length) none) m).bind fun f m1 => match f with
  | .nx _ => .ok .non m1
  | .rt v => .ok v m1
  | _ => .bad
end MP
set_option maxRecDepth 100000
/-! MSnd: how MPy's values and heap lie over the hand layer's, and what it means that a combinator reads a construct. -/
namespace MP
open PySem PySem.Spec L2
/-- a list that is only read: frozen, or of the written part -/
def FzL (K : PySem.W.Frag) (H : Hp) (a : Addr) (us : List V) : Prop :=
  (∃ o, H a = some (.frz o (.lst us))) ∨
    ∃ (o : Obj) (its : Array Value) (n : Nat), K.lookup a = some o ∧ o.cls = .type "list" ∧ o.dict = none ∧ o.data = .seq its n ∧ its.size ≤ sizeLine ∧ Vals us its.toList
theorem FzL.sq {K : PySem.W.Frag} {H : Hp} {a : Addr} {us : List V} (h : FzL K H a us) : SqL K H a us := by
  rcases h with ⟨o, h⟩ | h
  · exact .inl (.inr ⟨o, h⟩)
  · exact .inr h
mutual
inductive RV (K : PySem.W.Frag) (r : List Addr) (H : Hp) : MV → V → Prop
  | non : RV K r H .non .non
  | bl (b : Bool) : RV K r H (.bl b) (.bl b)
  | int (i : Int) : RV K r H (.int i) (.int i)
  | str (x : Str) : RV K r H (.str x) (.str x)
  | ref {i : Nat} {a : Addr} : r[i]? = some a → RV K r H (.ref i) (.ref a)
  | tup {a : Addr} {xs : List MV} {us : List V} : SqT K H a us → RVs K r H xs us → RV K r H (.tup xs) (.ref a)
  | fro {a : Addr} {xs : List MV} {us : List V} : FzL K H a us → RVs K r H xs us → RV K r H (.fro xs) (.ref a)
inductive RVs (K : PySem.W.Frag) (r : List Addr) (H : Hp) : List MV → List V → Prop
  | nil : RVs K r H [] []
  | cons {x : MV} {xs : List MV} {u : V} {us : List V} : RV K r H x u → RVs K r H xs us → RVs K r H (x :: xs) (u :: us)
end
/-- tuples, read-only lists stay -/
structure TX (K : PySem.W.Frag) (H H' : Hp) : Prop where
  t : ∀ a us, SqT K H a us → SqT K H' a us
  f : ∀ a us, FzL K H a us → FzL K H' a us
theorem TX.refl {K : PySem.W.Frag} (H : Hp) : TX K H H := ⟨fun _ _ h => h, fun _ _ h => h⟩
theorem TX.trans {K : PySem.W.Frag} {H H1 H2 : Hp} (a : TX K H H1) (b : TX K H1 H2) : TX K H H2 := ⟨fun x us h => b.t x us (a.t x us h), fun x us h => b.f x us (a.f x us h)⟩
/-- what may be written anew at p -/
def Free (H : Hp) (p : Addr) : Prop := H p = none ∨ Mut (H p)
theorem TX.upd {K : PySem.W.Frag} {H : Hp} {p : Addr} {o : HO} (h : Free H p) : TX K H (upd H p o) := by
  have key : ∀ a u, H a = some u → ¬ Mut (some u) → L2.upd H p o a = some u := fun a u e n => by
    refine (upd_ne fun z => ?_).trans e
    subst z
    rcases h with h | h
    · rw [h] at e; cases e
    · rw [e] at h; exact n h
  refine ⟨fun a us q => ?_, fun a us q => ?_⟩
  · rcases q with (q | ⟨ob, q⟩) | q
    · exact .inl (.inl (key _ _ q fun z => z))
    · exact .inl (.inr ⟨ob, key _ _ q fun z => z⟩)
    · exact .inr q
  · rcases q with ⟨ob, q⟩ | q
    · exact .inl ⟨ob, key _ _ q fun z => z⟩
    · exact .inr q
/-- the one list of addresses goes on from the other -/
def Pre (r r' : List Addr) : Prop := ∃ t, r' = r ++ t
theorem Pre.refl (r : List Addr) : Pre r r := ⟨[], by simp⟩
theorem Pre.trans {a b c : List Addr} (h : Pre a b) (k : Pre b c) : Pre a c := by
  obtain ⟨t, rfl⟩ := h
  obtain ⟨u, rfl⟩ := k
  exact ⟨t ++ u, by simp⟩
theorem Pre.get {r r' : List Addr} (h : Pre r r') {i : Nat} {a : Addr} (e : r[i]? = some a) : r'[i]? = some a := by
  obtain ⟨t, rfl⟩ := h
  rw [List.getElem?_append_left (List.getElem?_eq_some_iff.mp e).1]
  exact e
theorem Pre.one (r : List Addr) (p : Addr) : Pre r (r ++ [p]) := ⟨[p], rfl⟩
mutual
theorem RV.mono {K : PySem.W.Frag} {r r' : List Addr} {H H' : Hp} (p : Pre r r') (t : TX K H H') : ∀ {x : MV} {u : V}, RV K r H x u → RV K r' H' x u
  | _, _, .non => .non
  | _, _, .bl b => .bl b
  | _, _, .int i => .int i
  | _, _, .str x => .str x
  | _, _, .ref e => .ref (p.get e)
  | _, _, .tup q s => .tup (t.t _ _ q) (RVs.mono p t s)
  | _, _, .fro q s => .fro (t.f _ _ q) (RVs.mono p t s)
theorem RVs.mono {K : PySem.W.Frag} {r r' : List Addr} {H H' : Hp} (p : Pre r r') (t : TX K H H') : ∀ {xs : List MV} {us : List V}, RVs K r H xs us → RVs K r' H' xs us
  | _, _, .nil => .nil
  | _, _, .cons h s => .cons (RV.mono p t h) (RVs.mono p t s)
end
section
variable {K : PySem.W.Frag} {r : List Addr} {H : Hp}
theorem RVs.length : ∀ {xs : List MV} {us : List V}, RVs K r H xs us → xs.length = us.length
  | _, _, .nil => rfl
  | _, _, .cons _ s => by rw [List.length_cons, List.length_cons, RVs.length s]
theorem RVs.get : ∀ {xs : List MV} {us : List V} {i : Nat} {x : MV}, RVs K r H xs us → xs[i]? = some x → ∃ u, us[i]? = some u ∧ RV K r H x u
  | _, _, _, _, .nil, e => by simp at e
  | _, _, 0, _, .cons h _, e => by simp at e; subst e; exact ⟨_, rfl, h⟩
  | _, _, i + 1, x, .cons _ s, e => by
    obtain ⟨u, a, b⟩ := RVs.get (i := i) (x := x) s (by simpa using e)
    exact ⟨u, by simpa using a, b⟩
theorem RVs.append : ∀ {xs ys : List MV} {us ws : List V}, RVs K r H xs us → RVs K r H ys ws → RVs K r H (xs ++ ys) (us ++ ws)
  | _, _, _, _, .nil, s => s
  | _, _, _, _, .cons h t, s => .cons h (RVs.append t s)
theorem RVs.set {x : MV} {u : V} (h : RV K r H x u) : ∀ {xs : List MV} {us : List V} (i : Nat), RVs K r H xs us → RVs K r H (xs.set i x) (us.set i u)
  | _, _, _, .nil => .nil
  | _, _, 0, .cons _ t => .cons h t
  | _, _, i + 1, .cons q t => .cons q (RVs.set h i t)
theorem RVs.take : ∀ {xs : List MV} {us : List V} (n : Nat), RVs K r H xs us → RVs K r H (xs.take n) (us.take n)
  | _, _, 0, _ => .nil
  | _, _, _ + 1, .nil => .nil
  | _, _, n + 1, .cons h t => .cons h (RVs.take n t)
theorem RVs.drop : ∀ {xs : List MV} {us : List V} (n : Nat), RVs K r H xs us → RVs K r H (xs.drop n) (us.drop n)
  | _, _, 0, h => h
  | _, _, _ + 1, .nil => .nil
  | _, _, n + 1, .cons _ t => RVs.drop n t
theorem RVs.reverse {xs : List MV} {us : List V} (h : RVs K r H xs us) : RVs K r H xs.reverse us.reverse := by
  induction xs generalizing us with
  | nil => cases h; exact .nil
  | cons x xs ih =>
    cases h with
    | cons a b =>
      rw [List.reverse_cons, List.reverse_cons]
      exact (ih b).append (.cons a .nil)
theorem RVs.mem {xs : List MV} {us : List V} {u : V} (h : RVs K r H xs us) (m : u ∈ us) : ∃ x ∈ xs, RV K r H x u := by
  induction xs generalizing us with
  | nil => cases h; cases m
  | cons x xs ih =>
    cases h with
    | cons a b =>
      rcases List.mem_cons.mp m with rfl | m
      · exact ⟨x, List.mem_cons_self, a⟩
      · obtain ⟨y, p, q⟩ := ih b m
        exact ⟨y, List.mem_cons_of_mem _ p, q⟩
end
/-- what a law's text gives besides: the classes' addresses, the attributes' names by number -/
structure Zc where
  K : PySem.W.Frag
  CA : Nat → Addr
  AN : Nat → Str
  nA : Nat
  inj : ∀ i j, i < nA → j < nA → AN i = AN j → i = j
/-- attributes -/
inductive FR (Z : Zc) (r : List Addr) (H : Hp) : List (Nat × MV) → List (Str × V) → Prop
  | nil : FR Z r H [] []
  | cons {k : Nat} {x : MV} {u : V} {fs : List (Nat × MV)} {gs : List (Str × V)} : k < Z.nA → RV Z.K r H x u → FR Z r H fs gs → FR Z r H ((k, x) :: fs) ((Z.AN k, u) :: gs)
/-- a dict's entries -/
inductive KR {κ : Type} (K : PySem.W.Frag) (r : List Addr) (H : Hp) : List (κ × MV) → List (κ × V) → Prop
  | nil : KR K r H [] []
  | cons {k : κ} {x : MV} {u : V} {fs : List (κ × MV)} {gs : List (κ × V)} : RV K r H x u → KR K r H fs gs → KR K r H ((k, x) :: fs) ((k, u) :: gs)
section
variable {Z : Zc} {r r' : List Addr} {H H' : Hp}
theorem FR.mono (p : Pre r r') (t : TX Z.K H H') : ∀ {fs : List (Nat × MV)} {gs : List (Str × V)}, FR Z r H fs gs → FR Z r' H' fs gs
  | _, _, .nil => .nil
  | _, _, .cons k h s => .cons k (h.mono p t) (FR.mono p t s)
theorem FR.length : ∀ {fs : List (Nat × MV)} {gs : List (Str × V)}, FR Z r H fs gs → fs.length = gs.length
  | _, _, .nil => rfl
  | _, _, .cons _ _ s => by rw [List.length_cons, List.length_cons, FR.length s]
theorem FR.look {k : Nat} {x : MV} : ∀ {fs : List (Nat × MV)} {gs : List (Str × V)}, FR Z r H fs gs → fs.lookup k = some x → ∃ u, gs.lookup (Z.AN k) = some u ∧ RV Z.K r H x u
  | _, _, .nil, e => by simp at e
  | _, _, @FR.cons _ _ _ j y u fs gs hk h s, e => by
    rw [List.lookup_cons] at e ⊢
    by_cases z : k = j
    · subst z
      simp at e
      subst e
      exact ⟨u, by simp, h⟩
    · have : (k == j) = false := by simp [z]
      rw [this] at e
      obtain ⟨u', a, b⟩ := FR.look s e
      have hkj : k < Z.nA := by
        clear a b
        induction s with
        | nil => simp at e
        | @cons j' y' u'' fs' gs' hk' h' s' ih =>
          rw [List.lookup_cons] at e
          by_cases z' : k = j'
          · subst z'; exact hk'
          · have : (k == j') = false := by simp [z']
            rw [this] at e
            exact ih e
      have : (Z.AN k == Z.AN j) = false := by
        simp only [beq_eq_false_iff_ne]
        exact fun q => z (Z.inj _ _ hkj hk q)
      rw [this]
      exact ⟨u', a, b⟩
theorem FR.no {k : Nat} (hk : k < Z.nA) : ∀ {fs : List (Nat × MV)} {gs : List (Str × V)}, FR Z r H fs gs → fs.lookup k = none → gs.lookup (Z.AN k) = none
  | _, _, .nil, _ => by simp
  | _, _, @FR.cons _ _ _ j y u fs gs hj h s, e => by
    rw [List.lookup_cons] at e ⊢
    by_cases z : k = j
    · subst z; simp at e
    · have h1 : (k == j) = false := by simp [z]
      rw [h1] at e
      have h2 : (Z.AN k == Z.AN j) = false := by
        simp only [beq_eq_false_iff_ne]
        exact fun q => z (Z.inj _ _ hk hj q)
      rw [h2]
      exact FR.no hk s e
theorem FR.put {k : Nat} {x : MV} {u : V} (hk : k < Z.nA) (h : RV Z.K r H x u) : ∀ {fs : List (Nat × MV)} {gs : List (Str × V)}, FR Z r H fs gs → FR Z r H (putN k x fs) (putF (Z.AN k) u gs)
  | _, _, .nil => .cons hk h .nil
  | _, _, @FR.cons _ _ _ j y w fs gs hj q s => by
    unfold putN putF
    by_cases z : j = k
    · subst z
      rw [if_pos rfl, if_pos rfl]
      exact .cons hk h s
    · have z2 : ¬ Z.AN j = Z.AN k := fun e => z (Z.inj _ _ hj hk e)
      rw [if_neg z, if_neg z2]
      exact .cons hj q (FR.put hk h s)
theorem KR.mono {κ : Type} {K : PySem.W.Frag} (p : Pre r r') (t : TX K H H') : ∀ {fs : List (κ × MV)} {gs : List (κ × V)}, KR K r H fs gs → KR K r' H' fs gs
  | _, _, .nil => .nil
  | _, _, .cons h s => .cons (h.mono p t) (KR.mono p t s)
end
def OR (Z : Zc) (r : List Addr) (H : Hp) (a : Addr) : MO → Prop
  | .lst xs => ∃ us, H a = some (.lst us) ∧ RVs Z.K r H xs us
  | .dct kvs => ∃ us, H a = some (.dK us) ∧ KR Z.K r H kvs us
  | .dctT kvs => ∃ us, H a = some (.dT us) ∧ KR Z.K r H kvs us
  | .ins c fs => ∃ dx us, H a = some (.ins (Z.CA c) dx us) ∧ FR Z r H fs us
theorem OR.mut {Z : Zc} {r : List Addr} {H : Hp} {a : Addr} {o : MO} (h : OR Z r H a o) : Mut (H a) := by
  cases o with
  | lst xs => obtain ⟨us, e, _⟩ := h; rw [e]; trivial
  | dct xs => obtain ⟨us, e, _⟩ := h; rw [e]; trivial
  | dctT xs => obtain ⟨us, e, _⟩ := h; rw [e]; trivial
  | ins c fs => obtain ⟨dx, us, e, _⟩ := h; rw [e]; trivial
theorem OR.mono {Z : Zc} {r r' : List Addr} {H H' : Hp} {a : Addr} {o : MO} (p : Pre r r') (t : TX Z.K H H') (e : H' a = H a) (h : OR Z r H a o) : OR Z r' H' a o := by
  cases o with
  | lst xs => obtain ⟨us, q, s⟩ := h; exact ⟨us, e.trans q, s.mono p t⟩
  | dct xs => obtain ⟨us, q, s⟩ := h; exact ⟨us, e.trans q, s.mono p t⟩
  | dctT xs => obtain ⟨us, q, s⟩ := h; exact ⟨us, e.trans q, s.mono p t⟩
  | ins c fs => obtain ⟨dx, us, q, s⟩ := h; exact ⟨dx, us, e.trans q, s.mono p t⟩
/-- the small heap m lies in H at the places r -/
structure Rep (Z : Zc) (r : List Addr) (m : MH) (H : Hp) : Prop where
  len : r.length = m.length
  nd : r.Nodup
  obj : ∀ (i : Nat) (a : Addr) (o : MO), r[i]? = some a → m[i]? = some o → OR Z r H a o
section
variable {Z : Zc} {r r' : List Addr} {m : MH} {H H' : Hp}
theorem Rep.addr (R : Rep Z r m H) {i : Nat} {o : MO} (e : m[i]? = some o) : ∃ a, r[i]? = some a ∧ OR Z r H a o := by
  have h : i < m.length := (List.getElem?_eq_some_iff.mp e).1
  have h2 : i < r.length := by rw [R.len]; exact h
  exact ⟨r[i], by simp [h2], R.obj i _ o (by simp [h2]) e⟩
theorem Rep.there (R : Rep Z r m H) {i : Nat} {a : Addr} (e : r[i]? = some a) : ∃ o, m[i]? = some o ∧ OR Z r H a o := by
  have h : i < r.length := (List.getElem?_eq_some_iff.mp e).1
  have h2 : i < m.length := by rw [← R.len]; exact h
  exact ⟨m[i], by simp [h2], R.obj i a _ e (by simp [h2])⟩
theorem Rep.ne_none (R : Rep Z r m H) {a : Addr} (h : a ∈ r) : H a ≠ none := by
  obtain ⟨i, e⟩ := List.getElem?_of_mem h
  obtain ⟨o, _, q⟩ := R.there e
  have := q.mut
  intro z
  rw [z] at this
  exact this
theorem Rep.notin (R : Rep Z r m H) {p : Addr} (h : H p = none) : p ∉ r := fun q => R.ne_none q h
/-- a heap that differs at untracked places alone -/
theorem Rep.other (R : Rep Z r m H) (t : TX Z.K H H') (k : ∀ a ∈ r, H' a = H a) : Rep Z r m H' :=
  ⟨R.len, R.nd, fun i a o e1 e2 => (R.obj i a o e1 e2).mono (Pre.refl r) t (k a (List.mem_of_getElem? e1))⟩
/-- a new object that the small heap does not bear -/
theorem Rep.garb {p : Addr} {o : HO} (R : Rep Z r m H) (h : H p = none) : Rep Z r m (upd H p o) :=
  R.other (TX.upd (.inl h)) fun a q => upd_ne fun z => R.notin h (z ▸ q)
/-- a new object, with its place -/
theorem Rep.new {p : Addr} {o : HO} {x : MO} (R : Rep Z r m H) (h : H p = none) (new : OR Z (r ++ [p]) (upd H p o) p x) : Rep Z (r ++ [p]) (m ++ [x]) (upd H p o) := by
  have np := R.notin h
  refine ⟨by simp [R.len], ?_, fun i a y e1 e2 => ?_⟩
  · rw [List.nodup_append]
    exact ⟨R.nd, by simp, fun a ha b hb z => by
      simp at hb
      subst hb
      exact np (z ▸ ha)⟩
  · by_cases hi : i < r.length
    · rw [List.getElem?_append_left hi] at e1
      rw [List.getElem?_append_left (by rw [← R.len]; exact hi)] at e2
      exact (R.obj i a y e1 e2).mono (Pre.one r p) (TX.upd (.inl h)) (upd_ne fun z => np (z ▸ List.mem_of_getElem? e1))
    · have hr : r.length = m.length := R.len
      rw [List.getElem?_append_right (by omega)] at e1 e2
      have e0 : i - r.length = 0 := by
        have := (List.getElem?_eq_some_iff.mp e1).1
        simp at this
        omega
      rw [e0] at e1
      rw [← hr, e0] at e2
      simp at e1 e2
      subst e1 e2
      exact new
/-- an object written anew -/
theorem Rep.set {i : Nat} {p : Addr} {o : HO} {x : MO} (R : Rep Z r m H) (e : r[i]? = some p) (new : OR Z r (upd H p o) p x) : Rep Z r (m.set i x) (upd H p o) := by
  obtain ⟨old, e0, q⟩ := R.there e
  have fr : Free H p := .inr q.mut
  refine ⟨by rw [List.length_set]; exact R.len, R.nd, fun j a y e1 e2 => ?_⟩
  by_cases hj : j = i
  · subst hj
    rw [e] at e1
    cases e1
    rw [List.getElem?_set_self (List.getElem?_eq_some_iff.mp e0).1] at e2
    cases e2
    exact new
  · rw [List.getElem?_set_ne (Ne.symm hj)] at e2
    refine (R.obj j a y e1 e2).mono (Pre.refl r) (TX.upd fr) (upd_ne fun z => hj ?_)
    subst z
    obtain ⟨h1, e1⟩ := List.getElem?_eq_some_iff.mp e1
    obtain ⟨h2, e2⟩ := List.getElem?_eq_some_iff.mp e
    exact (List.getElem_inj R.nd).mp (e1.trans e2.symm)
end
/-- the names' slots -/
def RS (K : PySem.W.Frag) (r : List Addr) (H : Hp) (s : Env) (σ : St) : Prop := s.length = σ.length ∧ ∀ (i : Nat) (x : MV), s[i]? = some (some x) → ∃ u, σ[i]? = some (some u) ∧ RV K r H x u
theorem RS.mono {K : PySem.W.Frag} {r r' : List Addr} {H H' : Hp} {s : Env} {σ : St} (p : Pre r r') (t : TX K H H') (h : RS K r H s σ) : RS K r' H' s σ :=
  ⟨h.1, fun i x e => let ⟨u, a, b⟩ := h.2 i x e; ⟨u, a, b.mono p t⟩⟩
theorem RS.set {K : PySem.W.Frag} {r : List Addr} {H : Hp} {s : Env} {σ : St} {x : MV} {u : V} (h : RS K r H s σ) (q : RV K r H x u) (i : Nat) : RS K r H (s.set i (some x)) (σ.set i (some u)) := by
  refine ⟨by rw [List.length_set, List.length_set]; exact h.1, fun j y e => ?_⟩
  by_cases hj : j = i
  · subst hj
    have hl : j < s.length := by
      have := (List.getElem?_eq_some_iff.mp e).1
      rwa [List.length_set] at this
    rw [List.getElem?_set_self hl] at e
    cases e
    exact ⟨u, List.getElem?_set_self (by rw [← h.1]; exact hl), q⟩
  · rw [List.getElem?_set_ne (Ne.symm hj)] at e ⊢
    exact h.2 j y e
theorem RS.wipe {K : PySem.W.Frag} {r : List Addr} {H : Hp} {s : Env} {σ : St} (h : RS K r H s σ) : ∀ vs : List Nat, RS K r H (MP.wipe s vs) (L2.wipe σ vs)
  | [] => h
  | v :: vs => by
    have ih := RS.wipe h vs
    refine ⟨by unfold MP.wipe L2.wipe; rw [List.length_set, List.length_set]; exact ih.1, fun j y e => ?_⟩
    unfold MP.wipe at e
    unfold L2.wipe
    by_cases hj : j = v
    · subst hj
      have hl : j < (MP.wipe s vs).length := by
        have := (List.getElem?_eq_some_iff.mp e).1
        rwa [List.length_set] at this
      rw [List.getElem?_set_self hl] at e
      cases e
    · rw [List.getElem?_set_ne (Ne.symm hj)] at e ⊢
      exact ih.2 j y e
/-- the state: the small heap, the slots -/
structure S0 (Z : Zc) (r : List Addr) (m : MH) (H : Hp) (s : Env) (σ : St) : Prop where
  R : Rep Z r m H
  S : RS Z.K r H s σ
/-- r, H go on to r', H' -/
structure Go (Z : Zc) (r : List Addr) (H : Hp) (r' : List Addr) (m' : MH) (H' : Hp) : Prop where
  p : Pre r r'
  t : TX Z.K H H'
  R : Rep Z r' m' H'
theorem Go.trans {Z : Zc} {r r1 r2 : List Addr} {H H1 H2 : Hp} {m1 m2 : MH} (a : Go Z r H r1 m1 H1) (b : Go Z r1 H1 r2 m2 H2) : Go Z r H r2 m2 H2 := ⟨a.p.trans b.p, a.t.trans b.t, b.R⟩
theorem Go.refl {Z : Zc} {r : List Addr} {H : Hp} {m : MH} (R : Rep Z r m H) : Go Z r H r m H := ⟨Pre.refl r, TX.refl H, R⟩
/-- what is wanted of a result -/
def Fin {α : Type} (Z : Zc) (r : List Addr) (H : Hp) (Q : List Addr → Hp → α → Prop) : Res α → Prop
  | .ok a m' => ∀ r' H', Go Z r H r' m' H' → Q r' H' a
  | _ => False
theorem Fin.ok {α : Type} {Z : Zc} {r : List Addr} {H : Hp} {Q : List Addr → Hp → α → Prop} {a : α} {m : MH} (h : Fin Z r H Q (.ok a m)) (R : Rep Z r m H) : Q r H a := h r H (Go.refl R)
theorem Fin.mono {α : Type} {Z : Zc} {r r1 : List Addr} {H H1 : Hp} {m1 : MH} {Q Q' : List Addr → Hp → α → Prop} {x : Res α} (h : Fin Z r H Q x) (g : Go Z r H r1 m1 H1) (k : ∀ r' H' a, Q r' H' a → Q' r' H' a) : Fin Z r1 H1 Q' x := by
  cases x with
  | ok a m => exact fun r' H' g' => k _ _ _ (h r' H' (g.trans g'))
  | _ => exact h.elim
/-- a value wanted of the hand layer -/
abbrev QV (Z : Zc) (Q : VK) : List Addr → Hp → MV → Prop := fun r H x => ∀ u, RV Z.K r H x u → Q u H
/-- the reading of an expression -/
def SE (Z : Zc) (f : ES) : TE := fun σ H Q => ∃ r m s, S0 Z r m H s σ ∧ Fin Z r H (QV Z Q) (f s m)
def STt (Z : Zc) (f : TSm) : TT := fun σ H Q => ∃ r m s, S0 Z r m H s σ ∧ Fin Z r H (fun _ H' b => Q b H') (f s m)
def SA (Z : Zc) (f : LS) : TA := fun σ H Q => ∃ r m s, S0 Z r m H s σ ∧ Fin Z r H (fun r' H' xs => ∀ us, RVs Z.K r' H' xs us → Q us H') (f s m)
/-- an operation by values -/
def SO2 (Z : Zc) (g : MH → MV → MV → Res MV) : R2 := fun u w H Q => ∃ r m x y, Rep Z r m H ∧ RV Z.K r H x u ∧ RV Z.K r H y w ∧ Fin Z r H (QV Z Q) (g m x y)
def SO1 (Z : Zc) (g : MH → MV → Res MV) : V → Hp → VK → Prop := fun u H Q => ∃ r m x, Rep Z r m H ∧ RV Z.K r H x u ∧ Fin Z r H (QV Z Q) (g m x)
def SOn (Z : Zc) (g : MH → List MV → Res MV) : List V → Hp → VK → Prop := fun us H Q => ∃ r m xs, Rep Z r m H ∧ RVs Z.K r H xs us ∧ Fin Z r H (QV Z Q) (g m xs)
/-! ### weakening of readings -/
theorem PE.imp {X : Cx} {e : Expr} {t t' : TE} (h : PE X e t) (k : ∀ σ H Q, t' σ H Q → t σ H Q) : PE X e t' := ⟨fun pins s σ H Q I q => h.run pins s σ H Q I (k _ _ _ q)⟩
theorem PT.imp {X : Cx} {e : Expr} {t t' : TT} (h : PT X e t) (k : ∀ σ H Q, t' σ H Q → t σ H Q) : PT X e t' := ⟨fun pins s σ H Q I q => h.run pins s σ H Q I (k _ _ _ q)⟩
theorem PW.imp {X : Cx} {e : Expr} {t t' : TT} (h : PW X e t) (k : ∀ σ H Q, t' σ H Q → t σ H Q) : PW X e t' := ⟨fun wh pins s σ H Q I q => h.run wh pins s σ H Q I (k _ _ _ q)⟩
theorem PA.imp {X : Cx} {e : List Expr} {t t' : TA} (h : PA X e t) (k : ∀ σ H Q, t' σ H Q → t σ H Q) : PA X e t' := ⟨fun pos pins s σ H Q I q => h.run pos pins s σ H Q I (k _ _ _ q)⟩
theorem PS.imp {X : Cx} {e : Stmt} {t t' : TS} (h : PS X e t) (k : ∀ D σ H, t' D σ H → t D σ H) : PS X e t' := ⟨fun pins s σ H D I q => h.run pins s σ H D I (k _ _ _ q)⟩
theorem PSs.imp {X : Cx} {e : List Stmt} {t t' : TS} (h : PSs X e t) (k : ∀ D σ H, t' D σ H → t D σ H) : PSs X e t' := ⟨fun pins s σ H D I q => h.run pins s σ H D I (k _ _ _ q)⟩
theorem PG.imp {X : Cx} {e : Expr} {t t' : TG} (h : PG X e t) (k : ∀ v σ H Q, t' v σ H Q → t v σ H Q) : PG X e t' := ⟨fun pins s σ H v u Q I r q => h.run pins s σ H v u Q I r (k _ _ _ _ q)⟩
/-- the first part has run: go on -/
theorem Fin.bind {α β : Type} {Z : Zc} {r : List Addr} {H : Hp} {Q : List Addr → Hp → β → Prop} {x : Res α} {f : α → MH → Res β} (h : Fin Z r H Q (x.bind f)) :
    Fin Z r H (fun r' H' a => ∃ m', x = .ok a m' ∧ Go Z r H r' m' H' ∧ Fin Z r' H' Q (f a m')) x := by
  cases x with
  | ok a m =>
    intro r' H' g
    refine ⟨m, rfl, g, ?_⟩
    exact Fin.mono (Q := Q) h g fun _ _ _ q => q
  | exc c v m => exact h.elim
  | bad => exact h.elim
section
variable {X : Cx} {Z : Zc} {σ : St} {H : Hp} {r : List Addr} {m : MH} {s : Env}
theorem S0.go (h : S0 Z r m H s σ) {r' : List Addr} {m' : MH} {H' : Hp} (g : Go Z r H r' m' H') : S0 Z r' m' H' s σ := ⟨g.R, h.S.mono g.p g.t⟩
/-- an expression ahead of the rest -/
theorem SE.then {β : Type} {f : ES} {g : MV → MH → Res β} {Q : List Addr → Hp → β → Prop} (h : S0 Z r m H s σ) (q : Fin Z r H Q ((f s m).bind g)) {R : VK}
    (k : ∀ r' m' H' x u, S0 Z r' m' H' s σ → Go Z r H r' m' H' → RV Z.K r' H' x u → Fin Z r' H' Q (g x m') → R u H') : SE Z f σ H R := by
  refine ⟨r, m, s, h, ?_⟩
  have q2 := Fin.bind q
  revert q2
  cases f s m with
  | ok x m1 =>
    intro q2 r' H' gg u hu
    obtain ⟨m', e, g1, q3⟩ := q2 r' H' gg
    cases e
    exact k r' m1 H' x u (h.go g1) g1 hu q3
  | exc c v m => exact fun z => z
  | bad => exact fun z => z
theorem STt.then {β : Type} {f : TSm} {g : Bool → MH → Res β} {Q : List Addr → Hp → β → Prop} (h : S0 Z r m H s σ) (q : Fin Z r H Q ((f s m).bind g)) {R : Bool → Hp → Prop}
    (k : ∀ r' m' H' b, S0 Z r' m' H' s σ → Go Z r H r' m' H' → Fin Z r' H' Q (g b m') → R b H') : STt Z f σ H R := by
  refine ⟨r, m, s, h, ?_⟩
  have q2 := Fin.bind q
  revert q2
  cases f s m with
  | ok x m1 =>
    intro q2 r' H' gg
    obtain ⟨m', e, g1, q3⟩ := q2 r' H' gg
    cases e
    exact k r' m1 H' x (h.go g1) g1 q3
  | exc c v m => exact fun z => z
  | bad => exact fun z => z
theorem SA.then {β : Type} {f : LS} {g : List MV → MH → Res β} {Q : List Addr → Hp → β → Prop} (h : S0 Z r m H s σ) (q : Fin Z r H Q ((f s m).bind g)) {R : List V → Hp → Prop}
    (k : ∀ r' m' H' xs us, S0 Z r' m' H' s σ → Go Z r H r' m' H' → RVs Z.K r' H' xs us → Fin Z r' H' Q (g xs m') → R us H') : SA Z f σ H R := by
  refine ⟨r, m, s, h, ?_⟩
  have q2 := Fin.bind q
  revert q2
  cases f s m with
  | ok x m1 =>
    intro q2 r' H' gg us hu
    obtain ⟨m', e, g1, q3⟩ := q2 r' H' gg
    cases e
    exact k r' m1 H' x us (h.go g1) g1 hu q3
  | exc c v m => exact fun z => z
  | bad => exact fun z => z
/-! ### expressions -/
variable {a b c : Expr} {fa fb : ES} {pos : Pos} {es : List Expr} {la : LS}
theorem sV (i : Nat) {x : Str} (hN : X.N[i]? = some x) (hv : Vis X.env.scope x) (hd : (x == ("__debug__" : Str)) = false) (hcd : (x == ("__classdict__" : Str)) = false) : PE X (.Name x pos) (SE Z (eV i)) := by
  refine PE.imp (pe_var hN hv hd hcd) fun σ H Q ⟨r, m, s, h, q⟩ => ?_
  unfold eV at q
  split at q
  · rename_i v e
    obtain ⟨u, e1, e2⟩ := h.S.2 i v e
    exact ⟨u, e1, q.ok h.R u e2⟩
  · exact q.elim
theorem sC {v : MV} {u : V} {e : Expr} (h : PE X e (tC u)) (k : ∀ r H, RV Z.K r H v u) : PE X e (SE Z (eC v)) :=
  PE.imp h fun σ H Q ⟨r, m, s, h, q⟩ => q.ok h.R u (k r H)
theorem sInt {i j} : PE X (.Constant (.int i) j pos) (SE Z (eC (.int i))) := sC pe_int fun _ _ => .int i
theorem sBl {i j} : PE X (.Constant (.bool i) j pos) (SE Z (eC (.bl i))) := sC pe_bl fun _ _ => .bl i
theorem sNon {j} : PE X (.Constant .none j pos) (SE Z (eC .non)) := sC pe_non fun _ _ => .non
theorem sStr {i j} : PE X (.Constant (.str i) j pos) (SE Z (eC (.str i))) := sC pe_str fun _ _ => .str i
theorem SE.op2 {g : MH → MV → MV → Res MV} {Q : VK} (h : SE Z (e2 g fa fb) σ H Q) : tOp (SO2 Z g) (SE Z fa) (SE Z fb) σ H Q := by
  obtain ⟨r, m, s, h, q⟩ := h
  refine SE.then h q fun r1 m1 H1 x u h1 g1 hu q1 => ?_
  refine SE.then h1 q1 fun r2 m2 H2 y w h2 g2 hw q2 => ?_
  exact ⟨r2, m2, x, y, h2.R, hu.mono g2.p g2.t, hw, q2⟩
theorem sOp {op : Operator} {g : MH → MV → MV → Res MV} (ho : OpR X (binaryOp op) (SO2 Z g)) (ha : PE X a (SE Z fa)) (hb : PE X b (SE Z fb)) : PE X (.BinOp a op b pos) (SE Z (e2 g fa fb)) :=
  PE.imp (pe_op ho ha hb) fun _ _ _ h => h.op2
theorem sCmp {op : CmpOp} {g : MH → MV → MV → Res MV} (ho : OpR X (compareOp op) (SO2 Z g)) (ha : PE X a (SE Z fa)) (hb : PE X b (SE Z fb)) (hm : behindInMarks op b = false) : PE X (.Compare a [op] [b] pos) (SE Z (e2 g fa fb)) :=
  PE.imp (pe_cmpR ho ha hb hm) fun _ _ _ h => h.op2
theorem sUn {op : UnaryOp} {g : MH → MV → Res MV} (ho : UnR X (unaryOp op) (SO1 Z g)) (ha : PE X a (SE Z fa)) : PE X (.UnaryOp op a pos) (SE Z (e1 g fa)) := by
  refine PE.imp (pe_un ho ha) fun σ H Q ⟨r, m, s, h, q⟩ => ?_
  refine SE.then h q fun r1 m1 H1 x u h1 g1 hu q1 => ?_
  exact ⟨r1, m1, x, h1.R, hu, q1⟩
theorem saNil : PA X [] (SA Z lNil) := PA.imp pa_nil fun σ H Q ⟨r, m, s, h, q⟩ => q.ok h.R [] .nil
theorem saCons (ha : PE X a (SE Z fa)) (hr : PA X es (SA Z la)) (hs : starEach (a :: es) X.env = (false, eval a X.env) :: starEach es X.env := by rfl) : PA X (a :: es) (SA Z (lCons fa la)) := by
  refine PA.imp (pa_cons ha hr hs) fun σ H Q ⟨r, m, s, h, q⟩ => ?_
  refine SE.then h q fun r1 m1 H1 x u h1 g1 hu q1 => ?_
  refine SA.then h1 q1 fun r2 m2 H2 xs us h2 g2 hus q2 => ?_
  exact q2.ok h2.R _ (.cons (hu.mono g2.p g2.t) hus)
theorem big_line {n : Nat} (h : n ≤ big) : n ≤ sizeLine := Nat.le_trans h (by decide)
theorem sTup {k : Nat} (ha : PA X es (SA Z la)) : PE X (.Tuple es k pos) (SE Z (eTup la)) := by
  refine PE.imp (pe_tup ha) fun σ H Q ⟨r, m, s, h, q⟩ => ?_
  unfold eTup eL at q
  refine SA.then h q fun r1 m1 H1 xs us h1 g1 hus q1 => ?_
  dsimp only at q1
  split at q1
  · rename_i hl
    refine ⟨by rw [← hus.length]; exact big_line hl, fun p hp => ?_⟩
    have t : TX Z.K H1 (L2.upd H1 p (.tup us)) := TX.upd (.inl hp)
    exact q1 r1 _ ⟨Pre.refl _, t, h1.R.garb hp⟩ (.ref p) (.tup (SqT.of upd_same) (hus.mono (Pre.refl _) t))
  · exact q1.elim
theorem Fin.new {Q : List Addr → Hp → MV → Prop} {o : MO} {p : Addr} {ho : HO} (R : Rep Z r m H) (q : Fin Z r H Q (new o m)) (hp : H p = none) (k : OR Z (r ++ [p]) (L2.upd H p ho) p o) : Q (r ++ [p]) (L2.upd H p ho) (.ref m.length) ∧ RV Z.K (r ++ [p]) (L2.upd H p ho) (.ref m.length) (.ref p) := by
  have R2 := R.new hp k
  exact ⟨q _ _ ⟨Pre.one r p, TX.upd (.inl hp), R2⟩, .ref (by rw [← R.len]; simp)⟩
theorem sLst (ha : PA X es (SA Z la)) : PE X (.List es pos) (SE Z (eLst la)) := by
  refine PE.imp (pe_lst ha) fun σ H Q ⟨r, m, s, h, q⟩ => ?_
  unfold eLst eL at q
  refine SA.then h q fun r1 m1 H1 xs us h1 g1 hus q1 => ?_
  dsimp only at q1
  split at q1
  · rename_i hl
    refine ⟨by rw [← hus.length]; exact big_line hl, fun p hp => ?_⟩
    obtain ⟨a1, a2⟩ := Fin.new (ho := .lst us) h1.R q1 hp ⟨us, upd_same, hus.mono (Pre.one _ _) (TX.upd (.inl hp))⟩
    exact a1 _ a2
  · exact q1.elim
/-! tests -/
theorem STt.v {f : ES} {Q : Bool → Hp → Prop} (h : STt Z (tV f) σ H Q) : SE Z f σ H (fun u H1 => ∃ c, u = .bl c ∧ Q c H1) := by
  obtain ⟨r, m, s, h, q⟩ := h
  refine SE.then h q fun r1 m1 H1 x u h1 g1 hu q1 => ?_
  cases x with
  | bl b => cases hu; exact ⟨b, rfl, q1.ok h1.R⟩
  | _ => exact q1.elim
theorem stV {e : Expr} {f : ES} (he : PE X e (SE Z f)) (h1 : ∀ whole, isTrue e X.env whole = (do let v ← whole; standAt e.pos; holding [v] (truthy v)) := by intro _; rfl) : PT X e (STt Z (tV f)) :=
  PT.imp (pt_val he h1) fun _ _ _ h => h.v
theorem stCmp {op : CmpOp} {g : MH → MV → MV → Res MV} (ho : OpR X (compareOp op) (SO2 Z g)) (ha : PE X a (SE Z fa)) (hb : PE X b (SE Z fb)) (hm : behindInMarks op b = false) : PT X (.Compare a [op] [b] pos) (STt Z (tV (e2 g fa fb))) :=
  PT.imp (pt_cmpR ho ha hb hm) fun _ _ _ h => h.v.op2
variable {ta tb : TSm} {rest : List Expr}
theorem stNot (ha : PT X a (STt Z ta)) : PT X (.UnaryOp .Not a pos) (STt Z (tNot ta)) := by
  refine PT.imp (pt_not ha) fun σ H Q ⟨r, m, s, h, q⟩ => ?_
  exact STt.then h q fun r1 m1 H1 b h1 g1 q1 => q1.ok h1.R
theorem swOne {op : BoolOp} (ha : PT X a (STt Z ta)) : PW X (.BoolOp op [a] pos) (STt Z ta) := by
  cases op with
  | And => exact pw_and1 ha
  | Or => exact pw_or1 ha
theorem swAnd (ha : PT X a (STt Z ta)) (hb : PW X (.BoolOp .And (b :: rest) pos) (STt Z tb)) : PW X (.BoolOp .And (a :: b :: rest) pos) (STt Z (tAnd ta tb)) := by
  refine PW.imp (pw_and ha hb) fun σ H Q ⟨r, m, s, h, q⟩ => ?_
  refine STt.then h q fun r1 m1 H1 c h1 g1 q1 => ?_
  cases c with
  | true => exact iteT ⟨r1, m1, s, h1, q1⟩
  | false => exact iteF (q1.ok h1.R)
theorem swOr (ha : PT X a (STt Z ta)) (hb : PW X (.BoolOp .Or (b :: rest) pos) (STt Z tb)) : PW X (.BoolOp .Or (a :: b :: rest) pos) (STt Z (tOr ta tb)) := by
  refine PW.imp (pw_or ha hb) fun σ H Q ⟨r, m, s, h, q⟩ => ?_
  refine STt.then h q fun r1 m1 H1 c h1 g1 q1 => ?_
  cases c with
  | true => exact iteT (q1.ok h1.R)
  | false => exact iteF ⟨r1, m1, s, h1, q1⟩
theorem seOne {op : BoolOp} (ha : PE X a (SE Z fa)) : PE X (.BoolOp op [a] pos) (SE Z fa) := pe_one ha
theorem seAnd (ha : PE X a (SE Z fa)) (hb : PE X (.BoolOp .And (b :: rest) pos) (SE Z fb)) : PE X (.BoolOp .And (a :: b :: rest) pos) (SE Z (eAnd fa fb)) := by
  refine PE.imp (pe_and ha hb) fun σ H Q ⟨r, m, s, h, q⟩ => ?_
  refine SE.then h q fun r1 m1 H1 x u h1 g1 hu q1 => ?_
  cases x with
  | bl c =>
    cases hu
    refine ⟨c, rfl, ?_⟩
    cases c with
    | true => exact iteT ⟨r1, m1, s, h1, q1⟩
    | false => exact iteF (q1.ok h1.R _ (.bl false))
  | _ => exact q1.elim
theorem seOr (ha : PE X a (SE Z fa)) (hb : PE X (.BoolOp .Or (b :: rest) pos) (SE Z fb)) : PE X (.BoolOp .Or (a :: b :: rest) pos) (SE Z (eOr fa fb)) := by
  refine PE.imp (pe_or ha hb) fun σ H Q ⟨r, m, s, h, q⟩ => ?_
  refine SE.then h q fun r1 m1 H1 x u h1 g1 hu q1 => ?_
  cases x with
  | bl c =>
    cases hu
    refine ⟨c, rfl, ?_⟩
    cases c with
    | true => exact iteT (q1.ok h1.R _ (.bl true))
    | false => exact iteF ⟨r1, m1, s, h1, q1⟩
  | _ => exact q1.elim
theorem seNot (ha : PE X a (SE Z fa)) : PE X (.UnaryOp .Not a pos) (SE Z (eNot fa)) := by
  refine PE.imp (pe_not ha) fun σ H Q ⟨r, m, s, h, q⟩ => ?_
  refine SE.then h q fun r1 m1 H1 x u h1 g1 hu q1 => ?_
  cases x with
  | bl c => cases hu; exact ⟨c, rfl, q1.ok h1.R _ (.bl _)⟩
  | _ => exact q1.elim
theorem seIf (hc : PT X c (STt Z ta)) (ha : PE X a (SE Z fa)) (hb : PE X b (SE Z fb)) : PE X (.IfExp c a b pos) (SE Z (eIf ta fa fb)) := by
  refine PE.imp (pe_ifExp hc ha hb) fun σ H Q ⟨r, m, s, h, q⟩ => ?_
  refine STt.then h q fun r1 m1 H1 d h1 g1 q1 => ?_
  cases d with
  | true => exact iteT ⟨r1, m1, s, h1, q1⟩
  | false => exact iteF ⟨r1, m1, s, h1, q1⟩
end
/-! ### statements -/
def FlowOk (Z : Zc) (D : Ends) : List Addr → Hp → Flow → Prop := fun r H f => match f with
  | .nx s => ∀ σ, RS Z.K r H s σ → D.nx σ H
  | .rt v => ∀ u, RV Z.K r H v u → D.rt u H
  | .bk s => ∀ σ, RS Z.K r H s σ → D.bk σ H
  | .ct s => ∀ σ, RS Z.K r H s σ → D.ct σ H
def SSt (Z : Zc) (f : SS) : TS := fun D σ H => ∃ r m s, S0 Z r m H s σ ∧ Fin Z r H (FlowOk Z D) (f s m)
section
variable {X : Cx} {Z : Zc} {σ : St} {H : Hp} {r : List Addr} {m : MH} {s : Env} {a b c : Expr} {fa fb : ES} {ta : TSm} {pos : Pos} {st : Stmt} {sts sts2 : List Stmt} {f g : SS}
theorem ssNil : PSs X [] (SSt Z sNil) := PSs.imp pss_nil fun D σ H ⟨r, m, s, h, q⟩ => q.ok h.R σ h.S
/-- the first statement has run -/
theorem SSt.seq {D : Ends} (h : SSt Z (sCons f g) D σ H) : tSeq (SSt Z f) (SSt Z g) D σ H := by
  obtain ⟨r, m, s, h, q⟩ := h
  refine ⟨r, m, s, h, ?_⟩
  have q2 := Fin.bind q
  revert q2
  cases f s m with
  | ok x m1 =>
    intro q2 r' H' gg
    obtain ⟨m', e, g1, q3⟩ := q2 r' H' gg
    cases e
    cases x with
    | nx s1 => exact fun σ1 hs => ⟨r', m1, s1, ⟨gg.R, hs⟩, q3⟩
    | rt v => exact q3.ok gg.R
    | bk s1 => exact q3.ok gg.R
    | ct s1 => exact q3.ok gg.R
  | exc c v m => exact fun z => z
  | bad => exact fun z => z
theorem ssCons (h1 : PS X st (SSt Z f)) (h2 : PSs X sts (SSt Z g)) : PSs X (st :: sts) (SSt Z (sCons f g)) := PSs.imp (pss_cons h1 h2) fun _ _ _ h => h.seq
theorem ssOne (h1 : PS X st (SSt Z f)) : PSs X [st] (SSt Z f) := pss_one h1
theorem ssRet (he : PE X a (SE Z fa)) : PS X (.Return (some a) pos) (SSt Z (sRet fa)) := by
  refine PS.imp (ps_ret he) fun D σ H ⟨r, m, s, h, q⟩ => ?_
  exact SE.then h q fun r1 m1 H1 x u h1 g1 hu q1 => q1.ok h1.R u hu
theorem ssRetN : PS X (.Return none pos) (SSt Z sRetN) := PS.imp ps_retN fun D σ H ⟨r, m, s, h, q⟩ => q.ok h.R .non .non
theorem ssPass : PS X (.Pass pos) (SSt Z sPass) := PS.imp ps_pass fun D σ H ⟨r, m, s, h, q⟩ => q.ok h.R σ h.S
theorem ssBreak : PS X (.Break pos) (SSt Z sBreak) := PS.imp ps_break fun D σ H ⟨r, m, s, h, q⟩ => q.ok h.R σ h.S
theorem ssCont : PS X (.Continue pos) (SSt Z sCont) := PS.imp ps_continue fun D σ H ⟨r, m, s, h, q⟩ => q.ok h.R σ h.S
theorem ssNever : PS X st (SSt Z sNever) := PS.imp ps_never fun D σ H ⟨r, m, s, h, q⟩ => q
theorem ssDrop (he : PE X a (SE Z fa)) (hs : swapsWith a none pos.line X.env = pure false := by rfl) : PS X (.Expr a pos) (SSt Z (sDrop fa)) := by
  refine PS.imp (ps_expr he hs) fun D σ H ⟨r, m, s, h, q⟩ => ?_
  exact SE.then h q fun r1 m1 H1 x u h1 g1 hu q1 => q1.ok h1.R σ h1.S
theorem ssIf (hc : PT X c (STt Z ta)) (ha : PSs X sts (SSt Z f)) (hb : PSs X sts2 (SSt Z g)) : PS X (.If c sts sts2 pos) (SSt Z (sIf ta f g)) := by
  refine PS.imp (ps_if hc ha hb) fun D σ H ⟨r, m, s, h, q⟩ => ?_
  refine STt.then h q fun r1 m1 H1 d h1 g1 q1 => ?_
  cases d with
  | true => exact iteT ⟨r1, m1, s, h1, q1⟩
  | false => exact iteF ⟨r1, m1, s, h1, q1⟩
/-! ### targets -/
/-- vs: the slots that may change -/
def SetIn (vs : List Nat) (σ σ' : St) : Prop := σ'.length = σ.length ∧ ∀ i, i ∉ vs → σ'[i]? = σ[i]?
theorem SetIn.refl (vs : List Nat) (σ : St) : SetIn vs σ σ := ⟨rfl, fun _ _ => rfl⟩
theorem SetIn.trans {vs : List Nat} {σ σ1 σ2 : St} (a : SetIn vs σ σ1) (b : SetIn vs σ1 σ2) : SetIn vs σ σ2 := ⟨b.1.trans a.1, fun i h => (b.2 i h).trans (a.2 i h)⟩
theorem wipe_get (σ : St) (i : Nat) : ∀ vs : List Nat, (L2.wipe σ vs)[i]? = if i ∈ vs ∧ i < σ.length then some none else σ[i]?
  | [] => by simp [L2.wipe]
  | v :: vs => by
    unfold L2.wipe
    by_cases h : i = v
    · subst h
      by_cases hl : i < σ.length
      · rw [List.getElem?_set_self (by rw [wipe_length]; exact hl)]
        simp [hl]
      · rw [List.getElem?_eq_none (by rw [List.length_set, wipe_length]; omega), if_neg (by simp [hl]), List.getElem?_eq_none (by omega)]
    · rw [List.getElem?_set_ne (Ne.symm h), wipe_get σ i vs]
      simp [h]
theorem SetIn.wipe {vs : List Nat} {σ σ' : St} (h : SetIn vs σ σ') : L2.wipe σ' vs = L2.wipe σ vs := by
  refine List.ext_getElem? fun i => ?_
  rw [wipe_get, wipe_get, h.1]
  by_cases hi : i ∈ vs
  · by_cases hl : i < σ.length
    · simp [hi, hl]
    · rw [if_neg (by simp [hl]), if_neg (by simp [hl]), List.getElem?_eq_none (by rw [h.1]; omega), List.getElem?_eq_none (by omega)]
  · simp only [hi, false_and, if_false]
    exact h.2 i hi
def EnvOk (Z : Zc) (vs : List Nat) (σ : St) (Q : St → Hp → Prop) : List Addr → Hp → Env → Prop := fun r H s => ∀ σ', RS Z.K r H s σ' → SetIn vs σ σ' → Q σ' H
def SG (Z : Zc) (vs : List Nat) (g : GS) : TG := fun u σ H Q => ∃ r m s x, S0 Z r m H s σ ∧ RV Z.K r H x u ∧ Fin Z r H (EnvOk Z vs σ Q) (g x s m)
def SGs (Z : Zc) (vs : List Nat) (g : List MV → Env → MH → Res Env) : TGs := fun us σ H Q => ∃ r m s xs, S0 Z r m H s σ ∧ RVs Z.K r H xs us ∧ Fin Z r H (EnvOk Z vs σ Q) (g xs s m)
theorem PGs.imp {X : Cx} {e : List Expr} {t t' : TGs} (h : PGs X e t) (k : ∀ v σ H Q, t' v σ H Q → t v σ H Q) : PGs X e t' := ⟨fun pins s σ H v u Q I r q => h.run pins s σ H v u Q I r (k _ _ _ _ q)⟩
theorem sgN {i : Nat} {x : Str} {vs : List Nat} (hN : X.N.Nodup) (hi : X.N[i]? = some x) (hx : Loc X.env.scope x) (hv : i ∈ vs) (hf : X.fn x = true ∨ X.env.scope.names.lookup x = some .local := by first | exact .inl rfl | exact .inr rfl | assumption) : PG X (.Name x pos) (SG Z vs (gN i)) := by
  refine PG.imp (pg_name hN hi hx hf) fun u σ H Q ⟨r, m, s, y, h, hu, q⟩ => ?_
  exact q.ok h.R _ (h.S.set hu i) ⟨List.length_set, fun j hj => List.getElem?_set_ne fun z => hj (by subst z; exact hv)⟩
theorem sgsNil {vs : List Nat} : PGs X [] (SGs Z vs gsNil) := by
  refine PGs.imp pgs_nil fun us σ H Q ⟨r, m, s, ys, h, hu, q⟩ => ?_
  cases hu with
  | nil => exact ⟨rfl, q.ok h.R σ h.S (SetIn.refl _ _)⟩
  | cons => exact q.elim
theorem sgsCons {vs : List Nat} {e : Expr} {es : List Expr} {g : GS} {gr : List MV → Env → MH → Res Env} (h1 : PG X e (SG Z vs g)) (h2 : PGs X es (SGs Z vs gr))
    (hs : (assignEach (e :: es) X.env).map (·.2) = assign e X.env :: (assignEach es X.env).map (·.2) := by rfl) : PGs X (e :: es) (SGs Z vs (gsCons g gr)) := by
  refine PGs.imp (pgs_cons h1 h2 hs) fun us σ H Q ⟨r, m, s, ys, h, hu, q⟩ => ?_
  cases hu with
  | nil => exact q.elim
  | @cons x xs u us a1 a2 =>
    refine ⟨u, us, rfl, r, m, s, x, h, a1, ?_⟩
    have q2 := Fin.bind (x := g x s m) q
    revert q2
    cases g x s m with
    | ok s1 m1 =>
      intro q2 r' H' gg σ' hs' hset
      obtain ⟨m', e, g1, q3⟩ := q2 r' H' gg
      cases e
      refine ⟨r', m1, s1, xs, ⟨gg.R, hs'⟩, a2.mono gg.p gg.t, Fin.mono q3 (Go.refl gg.R) fun r2 H2 s2 w => ?_⟩
      exact fun σ2 h2 k2 => w σ2 h2 (hset.trans k2)
    | exc c v m => exact fun z => z
    | bad => exact fun z => z
theorem sgTup {vs : List Nat} {k n : Nat} {es : List Expr} {gr : List MV → Env → MH → Res Env} (hK : X.K = Z.K) (hc : X.calm = true) (h : PGs X es (SGs Z vs gr)) (hn : (assignEach es X.env).length = n := by rfl)
    (hst : (assignEach es X.env).findIdx? (·.1) = none := by rfl) : PG X (.Tuple es k pos) (SG Z vs (gTup n gr)) := by
  refine PG.imp (pg_tup hc h hn hst) fun u σ H Q ⟨r, m, s, y, h, hu, q⟩ => ?_
  cases y with
  | tup xs =>
    cases hu with
    | tup a1 a2 =>
      unfold gTup at q
      dsimp only at q
      split at q
      · rename_i hl
        exact ⟨_, _, rfl, by rw [hK]; exact a1, by rw [← a2.length]; exact hl, r, m, s, xs, h, a2, q⟩
      · exact q.elim
  | _ => exact q.elim
theorem ssAsg {tg e : Expr} {g : GS} {vs : List Nat} (he : PE X e (SE Z fa)) (hg : PG X tg (SG Z vs g)) (hs : swapsWithSole [tg] e pos.line X.env = pure false := by rfl) (hw : swappedStores [tg] e X.env = pure none := by rfl)
    (h1 : (assignEach [tg] X.env).map (·.2) = [assign tg X.env] := by rfl) : PS X (.Assign [tg] e pos) (SSt Z (sAsg fa g)) := by
  refine PS.imp (ps_asg he hg hs hw h1) fun D σ H ⟨r, m, s, h, q⟩ => ?_
  refine SE.then h q fun r1 m1 H1 x u h1 g1 hu q1 => ?_
  refine ⟨r1, m1, s, x, h1, hu, ?_⟩
  have q2 := Fin.bind (x := g x s m1) q1
  revert q2
  cases g x s m1 with
  | ok s1 m2 =>
    intro q2 r' H' gg σ' hs' hset
    obtain ⟨m', e, g2, q3⟩ := q2 r' H' gg
    cases e
    exact q3.ok gg.R σ' hs'
  | exc c v m => exact fun z => z
  | bad => exact fun z => z
/-- name = e -/
theorem ssSet {i : Nat} {x : Str} {pos' : Pos} (hN : X.N.Nodup) (hi : X.N[i]? = some x) (hx : Loc X.env.scope x) (he : PE X a (SE Z fa)) (hs : swapsWith a (some (.Name x pos')) pos.line X.env = pure false := by rfl)
    (hf : X.fn x = true ∨ X.env.scope.names.lookup x = some .local := by first | exact .inl rfl | exact .inr rfl | assumption) : PS X (.Assign [.Name x pos'] a pos) (SSt Z (sAsg fa (gN i))) := by
  refine PS.imp (ps_set hN hi hx he hs hf) fun D σ H ⟨r, m, s, h, q⟩ => ?_
  refine SE.then h q fun r1 m1 H1 x u h1 g1 hu q1 => ?_
  exact q1.ok h1.R _ (h1.S.set hu i)
theorem ssPar {i j : Nat} {x y : Str} {px py pt : Pos} {kt k2 pt2} (hc : X.calm = true) (hN : X.N.Nodup) (hi : X.N[i]? = some x) (hj : X.N[j]? = some y) (hij : i ≠ j)
    (hx : X.env.scope.names.lookup x = some .local) (hy : X.env.scope.names.lookup y = some .local) (ha : PE X a (SE Z fa)) (hb : PE X b (SE Z fb))
    (hw : swappedStores [.Tuple [.Name x px, .Name y py] kt pt] (.Tuple [a, b] k2 pt2) X.env = pure (some [x, y]))
    (hs : swapsWithSole [.Tuple [.Name x px, .Name y py] kt pt] (.Tuple [a, b] k2 pt2) pos.line X.env = pure false := by rfl)
    (hst : starEach [a, b] X.env = (false, eval a X.env) :: starEach [b] X.env := by rfl) (hst2 : starEach [b] X.env = (false, eval b X.env) :: starEach [] X.env := by rfl) :
    PS X (.Assign [.Tuple [.Name x px, .Name y py] kt pt] (.Tuple [a, b] k2 pt2) pos) (SSt Z (sPar i j fa fb)) := by
  refine PS.imp (ps_par hc hN hi hj hij hx hy (pa_cons ha (pa_cons hb pa_nil hst2) hst) hw hs) fun D σ H ⟨r, m, s, h, q⟩ => ?_
  refine SE.then h q fun r1 m1 H1 x u h1 g1 hu q1 => ?_
  refine SE.then h1 q1 fun r2 m2 H2 y w h2 g2 hw q2 => ?_
  exact ⟨u, w, rfl, q2.ok h2.R _ ((h2.S.set (hu.mono g2.p g2.t) i).set hw j)⟩
theorem ssAug {i : Nat} {x : Str} {op : Operator} {g : MH → MV → MV → Res MV} {pos' : Pos} (hN : X.N.Nodup) (hi : X.N[i]? = some x) (hx : Loc X.env.scope x) (he : PE X a (SE Z fa)) (ho : OpR X (inplaceOp op) (SO2 Z g))
    (hf : X.fn x = true ∨ X.env.scope.names.lookup x = some .local := by first | exact .inl rfl | exact .inr rfl | assumption) : PS X (.AugAssign (.Name x pos') op a pos) (SSt Z (sAug i g fa)) := by
  refine PS.imp (ps_aug (ti := SO2 Z g) hN hi hx he (fun pins s σ H x y v u Q I rx ry q => ho pins s σ H x y v u Q I rx ry q) hf) fun D σ H ⟨r, m, s, h, q⟩ => ?_
  unfold sAug at q
  split at q
  · rename_i v e
    obtain ⟨u, e1, e2⟩ := h.S.2 i v e
    refine ⟨u, e1, ?_⟩
    refine SE.then h q fun r1 m1 H1 y w h1 g1 hw q1 => ?_
    refine ⟨r1, m1, v, y, h1.R, e2.mono g1.p g1.t, hw, ?_⟩
    have q2 := Fin.bind (x := g m1 v y) q1
    revert q2
    cases g m1 v y with
    | ok z m2 =>
      intro q2 r' H' gg z' hz
      obtain ⟨m', e, g2, q3⟩ := q2 r' H' gg
      cases e
      exact q3.ok gg.R _ ((h1.go gg).S.set hz i)
    | exc c v m => exact fun z => z
    | bad => exact fun z => z
  · exact q.elim
end
end MP
set_option maxRecDepth 100000
/-! MOps: the operators by values. -/
namespace MP
open PySem PySem.Spec L2
section
variable {X : Cx} {Z : Zc}
/-- an int rule carried over -/
theorem lst_of {r : List Addr} {m : MH} {H : Hp} {p : Nat} {a : Addr} {xs : List MV} (R : Rep Z r m H) (e : r[p]? = some a) (h : lstOf m p = some xs) : ∃ us, H a = some (.lst us) ∧ RVs Z.K r H xs us := by
  unfold lstOf at h
  split at h
  · rename_i ys q
    cases h
    exact R.obj p a _ e q
  · cases h
/-- a sequence: its hand-layer form -/
theorem seq_of {r : List Addr} {m : MH} {H : Hp} {v : MV} {u : V} {xs : List MV} (R : Rep Z r m H) (h : RV Z.K r H v u) (e : seqOf m v = some xs) : ∃ a us, u = .ref a ∧ RVs Z.K r H xs us ∧ (SqL Z.K H a us ∨ SqT Z.K H a us) := by
  cases h with
  | tup q s => cases e; exact ⟨_, _, rfl, s, .inr q⟩
  | fro q s => cases e; exact ⟨_, _, rfl, s, .inl q.sq⟩
  | ref q =>
    obtain ⟨us, h1, h2⟩ := lst_of R q e
    exact ⟨_, us, rfl, h2, .inl (SqL.of h1)⟩
  | _ => cases e
theorem so_add (hK : X.K = Z.K) : OpR X (binaryOp .Add) (SO2 Z add) := by
  intro pins s σ H x y v u Q I rx ry ⟨r, m, a, b, R, ha, hb, q⟩
  cases ha with
  | int i =>
    cases hb with
    | int j => exact op_add pins s σ H _ _ v u Q I rx ry ⟨i, j, rfl, rfl, q.ok R _ (.int _)⟩
    | _ => exact q.elim
  | str i =>
    cases hb with
    | str j =>
      dsimp only [add] at q
      split at q
      · rename_i hl
        exact op_add_str pins s σ H _ _ v u Q I rx ry ⟨i, j, rfl, rfl, Nat.le_trans hl (by decide), q.ok R _ (.str _)⟩
      · exact q.elim
    | _ => exact q.elim
  | @tup pa xs us ta sa =>
    cases hb with
    | @tup pb ys ws tb sb =>
      dsimp only [add] at q
      split at q
      · rename_i hl
        refine op_catA pins s σ H _ _ v u Q I rx ry ⟨pa, pb, us, ws, rfl, rfl, by rw [hK]; exact ta, by rw [hK]; exact tb, by rw [← sa.length, ← sb.length]; exact big_line hl, fun e => ?_, fun _ e => ?_, fun _ _ p hp => ?_⟩
        · subst e; cases sa; exact q.ok R _ (.tup tb sb)
        · subst e; cases sb; rw [List.append_nil] at q; exact q.ok R _ (.tup ta sa)
        · have t : TX Z.K H (L2.upd H p (.tup (us ++ ws))) := TX.upd (.inl hp)
          exact q r _ ⟨Pre.refl _, t, R.garb hp⟩ _ (.tup (SqT.of upd_same) ((sa.append sb).mono (Pre.refl _) t))
      · exact q.elim
    | _ => exact q.elim
  | @ref i pa ea =>
    cases hb with
    | @ref j pb eb =>
      dsimp only [add] at q
      split at q
      · rename_i xs ys h1 h2
        split at q
        · rename_i hl
          obtain ⟨us, e1, s1⟩ := lst_of R ea h1
          obtain ⟨ws, e2, s2⟩ := lst_of R eb h2
          refine op_cat pins s σ H _ _ v u Q I rx ry ⟨pa, pb, us, ws, rfl, rfl, e1, e2, by rw [← s1.length, ← s2.length]; exact big_line hl, fun p hp => ?_⟩
          obtain ⟨z1, z2⟩ := Fin.new (ho := .lst (us ++ ws)) R q hp ⟨us ++ ws, upd_same, (s1.append s2).mono (Pre.one _ _) (TX.upd (.inl hp))⟩
          exact z1 _ z2
        · exact q.elim
      · exact q.elim
    | _ => exact q.elim
  | _ => cases hb <;> exact q.elim
theorem so_sub : OpR X (binaryOp .Sub) (SO2 Z sub) := by
  intro pins s σ H x y v u Q I rx ry ⟨r, m, a, b, R, ha, hb, q⟩
  cases ha with
  | int i =>
    cases hb with
    | int j => exact op_sub pins s σ H _ _ v u Q I rx ry ⟨i, j, rfl, rfl, q.ok R _ (.int _)⟩
    | _ => exact q.elim
  | _ => cases hb <;> exact q.elim
theorem small_bits {i : Int} (h : small i = true) : i.natAbs < 2 ^ 5000 := of_decide_eq_true h
theorem RVs.rep {K : PySem.W.Frag} {r : List Addr} {H : Hp} {xs : List MV} {us : List V} (h : RVs K r H xs us) : ∀ n : Nat, RVs K r H (List.replicate n xs).flatten (List.replicate n us).flatten
  | 0 => .nil
  | n + 1 => by
    rw [List.replicate_succ, List.replicate_succ, List.flatten_cons, List.flatten_cons]
    exact h.append (RVs.rep h n)
theorem so_mul_int {x y : V} {v u : Value} {Q : VK} {pins : List (Addr × Obj)} {s : Shared} {σ : L2.St} {H : Hp} (I : Inv X pins σ H s) (rx : RelV x v) (ry : RelV y u) {i j : Int} (ex : x = .int i) (ey : y = .int j) (h : (small i && small j) = true)
    (q : Q (.int (i * j)) H) : wpAny (model X.prog X.w) X.A (binaryOp .Mult v u) (EP X pins σ Q) X.xe s := by
  rw [Bool.and_eq_true] at h
  exact op_mulX pins s σ H _ _ v u Q I rx ry ⟨i, j, ex, ey, mulx_ok (small_bits h.1) (small_bits h.2) (by decide), q⟩
theorem so_pow : OpR X (binaryOp .Pow) (SO2 Z pow) := by
  intro pins s σ H x y v u Q I rx ry ⟨r, m, a, b, R, ha, hb, q⟩
  cases ha with
  | int i =>
    cases hb with
    | int j =>
      dsimp only [pow] at q
      split at q
      · rename_i h
        obtain ⟨h0, h1, h2⟩ := h
        obtain ⟨t, rfl⟩ := rx
        obtain ⟨t', rfl⟩ := ry
        have b := PyProof.Rows.intBits_le (small_bits h2)
        refine PyProof.Rows.pow_int h0 ?_ ⟨.int _, H, I.tok _, ⟨_, rfl⟩, q.ok R _ (.int _)⟩
        refine Int.le_trans (Int.mul_le_mul (by omega : (Builtin.Int.intBits i : Int) ≤ 5000) h1 h0 (by decide)) (by decide)
      · exact q.elim
    | _ => exact q.elim
  | _ => cases hb <;> exact q.elim
theorem so_md : OpR X (binaryOp .Mod) (SO2 Z md) := by
  intro pins s σ H x y v u Q I rx ry ⟨r, m, a, b, R, ha, hb, q⟩
  cases ha with
  | int i =>
    cases hb with
    | int j =>
      dsimp only [md] at q
      split at q
      · rename_i h
        exact op_mod pins s σ H _ _ v u Q I rx ry ⟨i, j, rfl, rfl, h, q.ok R _ (.int _)⟩
      · exact q.elim
    | _ => exact q.elim
  | _ => cases hb <;> exact q.elim
theorem so_fdiv : OpR X (binaryOp .FloorDiv) (SO2 Z fdiv) := by
  intro pins s σ H x y v u Q I rx ry ⟨r, m, a, b, R, ha, hb, q⟩
  cases ha with
  | int i =>
    cases hb with
    | int j =>
      dsimp only [fdiv] at q
      split at q
      · rename_i h
        exact op_fdivW pins s σ H _ _ v u Q I rx ry ⟨i, j, rfl, rfl, wide_div h.1 (small_bits h.2) (by decide) (by decide), q.ok R _ (.int _)⟩
      · exact q.elim
    | _ => exact q.elim
  | _ => cases hb <;> exact q.elim
theorem so_cmpI {op : CmpOp} {f : Int → Int → Bool} (ho : OpR X (compareOp op) (rI0 fun i j => .bl (f i j))) : OpR X (compareOp op) (SO2 Z (cmpI f)) := by
  intro pins s σ H x y v u Q I rx ry ⟨r, m, a, b, R, ha, hb, q⟩
  cases ha with
  | int i =>
    cases hb with
    | int j => exact ho pins s σ H _ _ v u Q I rx ry ⟨i, j, rfl, rfl, q.ok R _ (.bl _)⟩
    | _ => exact q.elim
  | _ => cases hb <;> exact q.elim
theorem so_lt : OpR X (compareOp .Lt) (SO2 Z lt) := so_cmpI op_lt
theorem so_le : OpR X (compareOp .LtE) (SO2 Z le) := so_cmpI op_le
theorem so_gt : OpR X (compareOp .Gt) (SO2 Z gt) := so_cmpI op_gt
theorem so_ge : OpR X (compareOp .GtE) (SO2 Z ge) := so_cmpI op_ge
theorem so_neg : UnR X (unaryOp .USub) (SO1 Z neg) := by
  intro pins s σ H x v Q I rx ⟨r, m, a, R, ha, q⟩
  cases ha with
  | int i => exact un_neg pins s σ H _ v Q I rx ⟨i, rfl, q.ok R _ (.int _)⟩
  | _ => exact q.elim
theorem isN_eq {K : PySem.W.Frag} {r : List Addr} {H : Hp} {a : MV} {x : V} (h : RV K r H a x) : decide (a = .non) = decide (x = .non) := by
  cases h <;> simp
/-- x is None: the right side is the constant -/
def isOp (m : MH) (a b : MV) : Res MV := match b with
  | .non => isN m a
  | _ => .bad
def isNotOp (m : MH) (a b : MV) : Res MV := match b with
  | .non => notN m a
  | _ => .bad
theorem so_is : OpR X (compareOp .Is) (SO2 Z isOp) := by
  intro pins s σ H x y v u Q I rx ry ⟨r, m, a, b, R, ha, hb, q⟩
  cases hb with
  | non => exact op_isN pins s σ H _ _ v u Q I rx ry ⟨rfl, by rw [← isN_eq ha]; exact q.ok R _ (.bl _)⟩
  | _ => exact q.elim
theorem so_isNot : OpR X (compareOp .IsNot) (SO2 Z isNotOp) := by
  intro pins s σ H x y v u Q I rx ry ⟨r, m, a, b, R, ha, hb, q⟩
  cases hb with
  | non => exact op_notN pins s σ H _ _ v u Q I rx ry ⟨rfl, by rw [← isN_eq ha]; exact q.ok R _ (.bl _)⟩
  | _ => exact q.elim
/-! ### == of data -/
theorem mapM_dp {K : PySem.W.Frag} {H : Hp} {r : List Addr} {f : MV → Option PyData} (k : ∀ x u d, RV K r H x u → f x = some d → Dp K H u d) : ∀ {xs : List MV} {us : List V} {ds : List PyData}, RVs K r H xs us → xs.mapM f = some ds → DpAll K H us ds
  | _, _, ds, .nil, e => by simp at e; subst e; exact .nil
  | _, _, ds, @RVs.cons _ _ _ x xs u us h s, e => by
    simp only [List.mapM_cons, Option.bind_eq_bind, Option.bind_eq_some_iff, Option.pure_def, Option.some.injEq] at e
    obtain ⟨d, e1, es, e2, rfl⟩ := e
    exact .cons (k x u d h e1) (mapM_dp k s e2)
theorem toD_dp {r : List Addr} {m : MH} {H : Hp} (R : Rep Z r m H) : ∀ (n : Nat) (x : MV) (u : V) (d : PyData), RV Z.K r H x u → toD m n x = some d → Dp Z.K H u d
  | 0, _, _, _, _, e => by cases e
  | n + 1, x, u, d, h, e => by
    cases h with
    | non => cases e; exact .non
    | bl b => cases e; exact .bl b
    | int i => cases e; exact .int i
    | str x => cases e; exact .str x
    | tup q s =>
      simp only [toD, Option.map_eq_some_iff] at e
      obtain ⟨ds, e1, rfl⟩ := e
      exact .tup q (mapM_dp (fun x u d h e => toD_dp R n x u d h e) s e1)
    | fro q s =>
      simp only [toD, Option.map_eq_some_iff] at e
      obtain ⟨ds, e1, rfl⟩ := e
      exact .lst q.sq (mapM_dp (fun x u d h e => toD_dp R n x u d h e) s e1)
    | ref q =>
      dsimp only [toD] at e
      split at e
      · rename_i xs h1
        simp only [Option.map_eq_some_iff] at e
        obtain ⟨ds, e1, rfl⟩ := e
        obtain ⟨us, z1, z2⟩ := lst_of R q h1
        exact .lst (SqL.of z1) (mapM_dp (fun x u d h e => toD_dp R n x u d h e) z2 e1)
      · cases e
theorem dEq_dp {r : List Addr} {m : MH} {H : Hp} {a b : MV} {x y : V} {c : Bool} (R : Rep Z r m H) (ha : RV Z.K r H a x) (hb : RV Z.K r H b y) (e : dEq m a b = some c) :
    ∃ d e, Dp Z.K H x d ∧ Dp Z.K H y e ∧ SeqAt.shaped d = true ∧ SeqAt.shaped e = true ∧ PyData.eqv d e = c := by
  unfold dEq at e
  split at e
  · rename_i d d' h1 h2
    split at e
    · rename_i h
      rw [Bool.and_eq_true] at h
      cases e
      exact ⟨d, d', toD_dp R _ _ _ _ ha h1, toD_dp R _ _ _ _ hb h2, h.1, h.2, rfl⟩
    · cases e
  · cases e
theorem so_eq (hK : X.K = Z.K) (hu : X.A.units + 64 < cLine) : OpR X (compareOp .Eq) (SO2 Z eq) := by
  intro pins s σ H x y v u Q I rx ry ⟨r, m, a, b, R, ha, hb, q⟩
  unfold eq at q
  split at q
  · rename_i c e
    obtain ⟨d, d', h1, h2, h3, h4, rfl⟩ := dEq_dp R ha hb e
    exact op_eqD hu pins s σ H _ _ v u Q I rx ry ⟨d, d', by rw [hK]; exact h1, by rw [hK]; exact h2, h3, h4, q.ok R _ (.bl _)⟩
  · exact q.elim
theorem so_ne (hK : X.K = Z.K) (hu : X.A.units + 64 < cLine) : OpR X (compareOp .NotEq) (SO2 Z ne) := by
  intro pins s σ H x y v u Q I rx ry ⟨r, m, a, b, R, ha, hb, q⟩
  unfold ne at q
  split at q
  · rename_i c e
    obtain ⟨d, d', h1, h2, h3, h4, rfl⟩ := dEq_dp R ha hb e
    exact op_neD hu pins s σ H _ _ v u Q I rx ry ⟨d, d', by rw [hK]; exact h1, by rw [hK]; exact h2, h3, h4, q.ok R _ (.bl _)⟩
  · exact q.elim
/-! ### in, not in -/
theorem flat_flatV {K : PySem.W.Frag} {r : List Addr} {H : Hp} {a : MV} {x : V} (h : RV K r H a x) (f : flat a = true) : flatV x = true := by
  cases h <;> first | rfl | cases f
theorem all_flat {K : PySem.W.Frag} {r : List Addr} {H : Hp} : ∀ {xs : List MV} {us : List V}, RVs K r H xs us → xs.all flat = true → us.all flatV = true
  | _, _, .nil, _ => rfl
  | _, _, .cons h s, e => by
    simp only [List.all_cons, Bool.and_eq_true] at e ⊢
    exact ⟨flat_flatV h e.1, all_flat s e.2⟩
theorem vEq_eqV {K : PySem.W.Frag} {r : List Addr} {H : Hp} {a b : MV} {x y : V} (h : RV K r H a x) (k : RV K r H b y) (f : flat a = true) (g : flat b = true) : vEq a b = eqV x y := by
  cases h <;> cases k <;> first | rfl | cases f | cases g
theorem any_in {K : PySem.W.Frag} {r : List Addr} {H : Hp} {a : MV} {x : V} (h : RV K r H a x) (f : flat a = true) : ∀ {xs : List MV} {us : List V}, RVs K r H xs us → xs.all flat = true → xs.any (fun y => vEq y a) = inV x us
  | _, _, .nil, _ => rfl
  | _, _, .cons k s, e => by
    simp only [List.all_cons, Bool.and_eq_true] at e
    unfold inV
    rw [List.any_cons, List.any_cons, vEq_eqV k h e.1 f, any_in h f s e.2]
    rfl
theorem so_in (hK : X.K = Z.K) : OpR X (compareOp .In) (SO2 Z inn) := by
  intro pins s σ H x y v u Q I rx ry ⟨r, m, a, b, R, ha, hb, q⟩
  unfold inn at q
  split at q
  · rename_i xs e
    split at q
    · rename_i h
      rw [Bool.and_eq_true] at h
      obtain ⟨p, us, rfl, s1, s2⟩ := seq_of R hb e
      refine op_in_seq pins s σ H _ _ v u Q I rx ry ⟨p, us, rfl, by rw [hK]; exact s2, flat_flatV ha h.1, all_flat s1 h.2, ?_⟩
      rw [if_neg Bool.false_ne_true, ← any_in ha h.1 s1 h.2]
      exact q.ok R _ (.bl _)
    · exact q.elim
  · exact q.elim
theorem so_notIn (hK : X.K = Z.K) : OpR X (compareOp .NotIn) (SO2 Z notInn) := by
  intro pins s σ H x y v u Q I rx ry ⟨r, m, a, b, R, ha, hb, q⟩
  unfold notInn at q
  split at q
  · rename_i xs e
    split at q
    · rename_i h
      rw [Bool.and_eq_true] at h
      obtain ⟨p, us, rfl, s1, s2⟩ := seq_of R hb e
      refine op_notIn_seq pins s σ H _ _ v u Q I rx ry ⟨p, us, rfl, by rw [hK]; exact s2, flat_flatV ha h.1, all_flat s1 h.2, ?_⟩
      rw [if_pos rfl, ← any_in ha h.1 s1 h.2]
      exact q.ok R _ (.bl _)
    · exact q.elim
  · exact q.elim
/-! ### places, slices -/
theorem atI_rv {K : PySem.W.Frag} {r : List Addr} {H : Hp} {xs : List MV} {us : List V} {i : Int} {x : MV} (h : RVs K r H xs us) (e : atI xs i = some x) : ∃ u, atI us i = some u ∧ RV K r H x u := by
  unfold atI at e ⊢
  rw [← h.length]
  cases q : ixN xs.length i with
  | none => rw [q] at e; cases e
  | some j => rw [q] at e; exact h.get (i := j) (by simpa using e)
theorem six (hK : X.K = Z.K) : IxR X (SO2 Z ix) := by
  intro value slice pins s σ H x y v u Q I rx ry ⟨r, m, a, b, R, ha, hb, q⟩ hs
  unfold ix at q
  split at q
  · rename_i xs i e
    cases hb
    split at q
    · rename_i z ez
      obtain ⟨p, us, rfl, s1, s2⟩ := seq_of R ha e
      obtain ⟨w, e1, e2⟩ := atI_rv s1 ez
      refine ix_seq value slice pins s σ H _ _ v u Q I rx ry ?_ hs
      rcases s2 with s2 | s2
      · exact .inl ⟨p, us, i, w, rfl, rfl, by rw [hK]; exact s2, e1, q.ok R _ e2⟩
      · exact .inr (.inl ⟨p, us, i, w, rfl, rfl, by rw [hK]; exact s2, e1, q.ok R _ e2⟩)
    · exact q.elim
  · exact q.elim
theorem cut_rv {K : PySem.W.Frag} {r : List Addr} {H : Hp} {xs : List MV} {us : List V} (lo hi : Option Int) (h : RVs K r H xs us) : RVs K r H (cut xs lo hi) (cutV us lo hi) := by
  unfold cut cutV
  rw [h.length]
  exact (h.drop _).take _
def SSl (Z : Zc) : V → Option Int → Option Int → Hp → VK → Prop := fun u lo hi H Q => ∃ r m x, Rep Z r m H ∧ RV Z.K r H x u ∧ Fin Z r H (QV Z Q) (slc m x lo hi)
theorem cut_whole {α : Type} {xs : List α} {lo hi : Option Int} (h : HT.sIx xs.length 0 lo = 0 ∧ HT.sIx xs.length xs.length hi = xs.length) : (xs.drop (HT.sIx xs.length 0 lo)).take (HT.sIx xs.length xs.length hi - HT.sIx xs.length 0 lo) = xs := by
  rw [h.1, h.2]
  simp
theorem ssl (hK : X.K = Z.K) : SlR X (SSl Z) := by
  intro pins s σ H x v vl vu lo hi sl Q I rx hs pl pu ⟨r, m, a, R, ha, q⟩
  cases ha with
  | @tup p xs us ta sa =>
    refine sl_tupA pins s σ H _ v vl vu lo hi sl Q I rx hs pl pu ⟨p, us, rfl, by rw [hK]; exact ta, fun e => ?_, fun _ p hp => ?_⟩
    · have e2 : cut xs lo hi = xs := cut_whole (by rw [sa.length]; exact e)
      dsimp only [slc] at q
      rw [e2] at q
      exact q.ok R _ (.tup ta sa)
    · have t : TX Z.K H (L2.upd H p (.tup (cutV us lo hi))) := TX.upd (.inl hp)
      exact q r _ ⟨Pre.refl _, t, R.garb hp⟩ _ (.tup (SqT.of upd_same) ((cut_rv lo hi sa).mono (Pre.refl _) t))
  | @fro p xs us ta sa =>
    refine sl_list pins s σ H _ v vl vu lo hi sl Q I rx hs pl pu ⟨p, us, rfl, by rw [hK]; exact ta.sq, fun p hp => ?_⟩
    obtain ⟨z1, z2⟩ := Fin.new (ho := .lst (cutV us lo hi)) R q hp ⟨_, upd_same, (cut_rv lo hi sa).mono (Pre.one _ _) (TX.upd (.inl hp))⟩
    exact z1 _ z2
  | @ref i p e =>
    dsimp only [slc] at q
    split at q
    · rename_i xs h1
      obtain ⟨us, e1, s1⟩ := lst_of R e h1
      refine sl_list pins s σ H _ v vl vu lo hi sl Q I rx hs pl pu ⟨p, us, rfl, SqL.of e1, fun p hp => ?_⟩
      obtain ⟨z1, z2⟩ := Fin.new (ho := .lst (cutV us lo hi)) R q hp ⟨_, upd_same, (cut_rv lo hi s1).mono (Pre.one _ _) (TX.upd (.inl hp))⟩
      exact z1 _ z2
    · exact q.elim
  | _ => exact q.elim
end
end MP
set_option maxRecDepth 100000
/-! MTup: a tuple, a list times an int. -/
namespace MP
open PySem PySem.Spec L2 PyProof.Rows
theorem tuple_mulS (l : Addr) (items : Array Value) (n : Nat) (dd : Option Addr) (sl : Array (Option Value)) (x : Int) (u : Tok) (c0 : (decide (x < -(2 ^ 63)) || decide (x ≥ 2 ^ 63)) = false) (c1 : (items.isEmpty || x == 1) = true) :
    Meets (Builtin.«tuple.__mul__» ⟨[.ref l, .int x u], []⟩) (fun _ R s => s.heap.get? l = some { cls := .type "tuple", dict := dd, data := .seq items n, slots := sl } ∧ R (.ok (.ret (Value.ref l))) s) :=
  .of_wp fun prog w A R s h => by
    obtain ⟨hp, g, d, tk, os⟩ := s
    obtain ⟨hl, h⟩ := h
    have f1 := AutoSeq1.idx_int
    wp_walk using AutoSeq1.wpAny_loadPart' hl
    repeat (first
      | (refine wpAny_ite_false (decide_eq_false (by rw [c0]; exact Bool.false_ne_true)) ?_; wp_walk using AutoSeq1.wpAny_loadPart' hl)
      | (refine wpAny_ite_true (decide_eq_true c1) ?_; wp_walk using AutoSeq1.wpAny_loadPart' hl))
    exact ⟨_, rfl, h⟩
theorem tuple_mulZ (l : Addr) (items : Array Value) (n : Nat) (dd : Option Addr) (sl : Array (Option Value)) (x : Int) (u : Tok) (c0 : (decide (x < -(2 ^ 63)) || decide (x ≥ 2 ^ 63)) = false) (c1 : (items.isEmpty || x == 1) = false) (c2 : (decide (x ≤ 0) || items.isEmpty) = true) :
    Meets (Builtin.«tuple.__mul__» ⟨[.ref l, .int x u], []⟩) (fun _ R s => s.heap.get? l = some { cls := .type "tuple", dict := dd, data := .seq items n, slots := sl } ∧
      R (.ok (.ret (Value.ref s.heap.objs.size))) { s with heap := s.heap.push { cls := Value.type "tuple", data := Data.seq #[] }, toks := s.toks }) :=
  .of_wp fun prog w A R s h => by
    obtain ⟨hp, g, d, tk, os⟩ := s
    obtain ⟨hl, h⟩ := h
    have f1 := AutoSeq1.idx_int
    wp_walk using AutoSeq1.wpAny_loadPart' hl
    repeat (first
      | (refine wpAny_ite_false (decide_eq_false (by rw [c0]; exact Bool.false_ne_true)) ?_; wp_walk using AutoSeq1.wpAny_loadPart' hl)
      | (refine wpAny_ite_false (decide_eq_false (by rw [c1]; exact Bool.false_ne_true)) ?_; wp_walk using AutoSeq1.wpAny_loadPart' hl)
      | (refine wpAny_ite_true (decide_eq_true c2) ?_; wp_walk using AutoSeq1.wpAny_loadPart' hl))
    exact ⟨_, rfl, h⟩
section
variable {X : Cx} {Z : Zc}
theorem flat_one {α : Type} (xs : List α) : (List.replicate 1 xs).flatten = xs := by simp
theorem so_mul (hK : X.K = Z.K) : OpR X (binaryOp .Mult) (SO2 Z mul) := by
  intro pins s σ H x y v u Q I rx ry ⟨r, m, a, b, R, ha, hb, q⟩
  cases ha with
  | int i =>
    cases hb with
    | int j =>
      dsimp only [mul] at q
      split at q
      · rename_i h
        exact so_mul_int I rx ry rfl rfl h (q.ok R _ (.int _))
      · exact q.elim
    | _ => exact q.elim
  | @tup l xs us ta sa =>
    cases hb with
    | int k =>
      dsimp only [mul] at q
      split at q
      · rename_i h
        obtain ⟨h0, h1, h2⟩ := h
        by_cases hg : us ≠ [] ∧ 2 ≤ k
        · refine op_repT pins s σ H _ _ v u Q I rx ry ⟨l, k, us, rfl, rfl, by rw [hK]; exact ta, hg.1, hg.2, h1, by rw [← sa.length]; exact h2, fun p hp => ?_⟩
          have t : TX Z.K H (L2.upd H p (.tup (List.replicate k.toNat us).flatten)) := TX.upd (.inl hp)
          exact q r _ ⟨Pre.refl _, t, R.garb hp⟩ _ (.tup (SqT.of upd_same) ((sa.rep _).mono (Pre.refl _) t))
        · cases rx
          obtain ⟨t, rfl⟩ := ry
          obtain ⟨its, rr, ⟨⟨cls, dd, data, sl⟩, ho, hc, n, hd⟩, hs⟩ := I.tuple (by rw [hK]; exact ta)
          simp only at hc hd
          subst hc hd
          have hle : its.length = us.length := rr.length.symm
          have c0 : (decide (k < -(2 ^ 63)) || decide (k ≥ 2 ^ 63)) = false := by
            rw [decide_eq_false (by omega), decide_eq_false (by omega)] <;> rfl
          have ie : its.toArray.isEmpty = us.isEmpty := by cases rr <;> simp
          by_cases c1 : (its.toArray.isEmpty || k == 1) = true
          · refine wpAny_binaryOp_repeat_ref (T := "tuple") (U := "int") (by decide) ⟨_, ho, rfl⟩ (fun s' => typeIs_int s' k t) noFill_tuple_mul F.fills_int_mul F.slot_int_rmul repeat_tuple F.slot_int_index.lookup
              (call_meets F.slot_int_rmul (typeIs_int s k t) F.entry_int_rmul (F.args_int_rmul_2 _ _) (int_rmul_tuple k t l its.toArray n dd sl)
                ⟨ho, rfl, ⟨_, ho, rfl⟩, call_meets F.slot_tuple_mul ⟨_, ho, rfl⟩ F.entry_tuple_mul (F.args_tuple_mul_2 _ _) (tuple_mulS l its.toArray n dd sl k t c0 c1) ⟨ho, ?_⟩⟩)
            refine ⟨.ref l, H, I, rfl, q.ok R _ ?_⟩
            have e : (List.replicate k.toNat xs).flatten = xs := by
              rw [Bool.or_eq_true, ie] at c1
              rcases c1 with c1 | c1
              · have e0 : us = [] := by simpa using c1
                subst e0
                cases sa
                simp
              · have e1 : k = 1 := by simpa using c1
                subst e1
                exact flat_one xs
            rw [e]
            exact .tup ta sa
          · have c1' : (its.toArray.isEmpty || k == 1) = false := by simpa using c1
            have hk : k ≤ 0 := by
              have z := c1'
              rw [Bool.or_eq_false_iff, ie] at z
              have n1 : us ≠ [] := by intro e; subst e; simp at z
              have n2 : k ≠ 1 := by intro e; subst e; simp at z
              have n3 : ¬ 2 ≤ k := fun g => hg ⟨n1, g⟩
              omega
            have c2 : (decide (k ≤ 0) || its.toArray.isEmpty) = true := by simp [hk]
            have e0 : k = 0 := by omega
            subst e0
            refine wpAny_binaryOp_repeat_ref (T := "tuple") (U := "int") (by decide) ⟨_, ho, rfl⟩ (fun s' => typeIs_int s' 0 t) noFill_tuple_mul F.fills_int_mul F.slot_int_rmul repeat_tuple F.slot_int_index.lookup
              (call_meets F.slot_int_rmul (typeIs_int s 0 t) F.entry_int_rmul (F.args_int_rmul_2 _ _) (int_rmul_tuple 0 t l its.toArray n dd sl)
                ⟨ho, rfl, ⟨_, ho, rfl⟩, call_meets F.slot_tuple_mul ⟨_, ho, rfl⟩ F.entry_tuple_mul (F.args_tuple_mul_2 _ _) (tuple_mulZ l its.toArray n dd sl 0 t c0 c1' c2) ⟨ho, ?_⟩⟩)
            have hf := I.hok.fresh (Nat.le_refl s.heap.objs.size)
            have tt : TX Z.K H (L2.upd H s.heap.objs.size (.tup [])) := TX.upd (.inl hf)
            refine ⟨.ref s.heap.objs.size, _, I.laid (t' := s.toks) (o := .tup []) (fun b ob q => Heap.get?_push_of_some _ q) (Nat.le_refl _) ⟨Nat.zero_le _, [], .nil, IsTup.new _ _⟩, rfl, q r _ ⟨Pre.refl _, tt, R.garb hf⟩ _ ?_⟩
            exact .tup (SqT.of upd_same) .nil
      · exact q.elim
    | _ => exact q.elim
  | @ref i l e =>
    cases hb with
    | int k =>
      dsimp only [mul] at q
      split at q
      · rename_i xs h1
        split at q
        · rename_i h
          obtain ⟨h0, h2, h3⟩ := h
          obtain ⟨us, e1, s1⟩ := lst_of R e h1
          refine op_rep pins s σ H _ _ v u Q I rx ry ⟨l, k, us, rfl, rfl, e1, by omega, by omega, ?_, fun p hp => ?_⟩
          · rw [sizeLine_eq, ← s1.length]
            have a1 : xs.length * k.toNat ≤ 1000 * 1000 := Nat.mul_le_mul h3 (by omega)
            omega
          · obtain ⟨z1, z2⟩ := Fin.new (ho := .lst (List.replicate k.toNat us).flatten) R q hp ⟨_, upd_same, (s1.rep _).mono (Pre.one _ _) (TX.upd (.inl hp))⟩
            exact z1 _ z2
        · exact q.elim
      · exact q.elim
    | _ => exact q.elim
  | _ => cases hb <;> exact q.elim
end
end MP
set_option maxRecDepth 100000
/-! MLoop: subscripts, fields, built-ins, loops, comprehensions, calls. -/
namespace MP
open PySem PySem.Spec L2
section
variable {X : Cx} {Z : Zc} {a b c o : Expr} {fa fb fo : ES} {pos : Pos} {es : List Expr} {la : LS}
theorem sIx (hK : X.K = Z.K) (ha : PE X a (SE Z fa)) (hb : PE X b (SE Z fb)) (hs : PlainIx b) : PE X (.Subscript a b pos) (SE Z (e2 ix fa fb)) :=
  PE.imp (pe_ix (six hK) ha hb hs) fun _ _ _ h => h.op2
def SOt (Z : Zc) (f : OS) : TO := fun σ H Q => ∃ r m s, S0 Z r m H s σ ∧ Fin Z r H (fun _ H' b => Q b H') (f s m)
theorem PO.imp {e : Option Expr} {t t' : TO} (h : PO X e t) (k : ∀ σ H Q, t' σ H Q → t σ H Q) : PO X e t' := ⟨fun pins s σ H Q I q => h.run pins s σ H Q I (k _ _ _ q)⟩
theorem soNone : PO X none (SOt Z oNone) := PO.imp po_none fun σ H Q ⟨r, m, s, h, q⟩ => q.ok h.R
theorem soSome (h : PE X a (SE Z fa)) : PO X (some a) (SOt Z (oSome fa)) := by
  refine PO.imp (po_some h) fun σ H Q ⟨r, m, s, h, q⟩ => ?_
  refine SE.then h q fun r1 m1 H1 x u h1 g1 hu q1 => ?_
  cases x with
  | int i => cases hu; exact ⟨i, rfl, q1.ok h1.R⟩
  | _ => exact q1.elim
theorem SOt.then {σ : St} {H : Hp} {r : List Addr} {m : MH} {s : Env} {β : Type} {f : OS} {g : Option Int → MH → Res β} {Q : List Addr → Hp → β → Prop} (h : S0 Z r m H s σ) (q : Fin Z r H Q ((f s m).bind g)) {R : Option Int → Hp → Prop}
    (k : ∀ r' m' H' b, S0 Z r' m' H' s σ → Go Z r H r' m' H' → Fin Z r' H' Q (g b m') → R b H') : SOt Z f σ H R := by
  refine ⟨r, m, s, h, ?_⟩
  have q2 := Fin.bind q
  revert q2
  cases f s m with
  | ok x m1 =>
    intro q2 r' H' gg
    obtain ⟨m', e, g1, q3⟩ := q2 r' H' gg
    cases e
    exact k r' m1 H' x (h.go g1) g1 q3
  | exc c v m => exact fun z => z
  | bad => exact fun z => z
variable {lo hi : Option Expr} {fl fh : OS} {p2 : Pos}
theorem sSlice (hK : X.K = Z.K) (ha : PE X a (SE Z fa)) (hl : PO X lo (SOt Z fl)) (hh : PO X hi (SOt Z fh)) : PE X (.Subscript a (.Slice lo hi none p2) pos) (SE Z (eSlice fa fl fh)) := by
  refine PE.imp (pe_slice (ssl hK) ha hl hh) fun σ H Q ⟨r, m, s, h, q⟩ => ?_
  refine SE.then h q fun r1 m1 H1 x u h1 g1 hu q1 => ?_
  refine SOt.then h1 q1 fun r2 m2 H2 l h2 g2 q2 => ?_
  refine SOt.then h2 q2 fun r3 m3 H3 k h3 g3 q3 => ?_
  exact ⟨r3, m3, x, h3.R, hu.mono (g2.trans g3).p (g2.trans g3).t, q3⟩
theorem sRev {k : Nat} {p1 p2 p3 : Pos} (hK : X.K = Z.K) (ha : PE X a (SE Z fa)) : PE X (.Subscript a (.Slice none none (some (.UnaryOp .USub (.Constant (.int 1) k p1) p2)) p3) pos) (SE Z (eRev fa)) := by
  refine PE.imp (pe_revL ha) fun σ H Q ⟨r, m, s, h, q⟩ => ?_
  refine SE.then h q fun r1 m1 H1 x u h1 g1 hu q1 => ?_
  cases x with
  | ref i =>
    cases hu with
    | ref e =>
      dsimp only at q1
      split at q1
      · rename_i xs h2
        obtain ⟨us, e1, s1⟩ := lst_of h1.R e h2
        refine ⟨_, us, rfl, SqL.of e1, fun p hp => ?_⟩
        obtain ⟨z1, z2⟩ := Fin.new (ho := .lst us.reverse) h1.R q1 hp ⟨_, upd_same, s1.reverse.mono (Pre.one _ _) (TX.upd (.inl hp))⟩
        exact z1 _ z2
      · exact q1.elim
  | _ => exact q1.elim
/-! ### fields -/
/-- the classes cs have no attribute so called of their own -/
def ClsA (Z : Zc) (cs : List Nat) (k : Nat) : Prop := k < Z.nA ∧ ∀ c ∈ cs, Cls Z.K (Z.CA c) ∧ NoAttr Z.K (Z.CA c) (Z.AN k)
theorem ins_of {r : List Addr} {m : MH} {H : Hp} {p : Nat} {a : Addr} {c : Nat} {fs : List (Nat × MV)} (R : Rep Z r m H) (e : r[p]? = some a) (h : m[p]? = some (.ins c fs)) : ∃ dx us, H a = some (.ins (Z.CA c) dx us) ∧ FR Z r H fs us :=
  R.obj p a _ e h
theorem sFldE {cs : List Nat} {k : Nat} {f : Str} (hK : X.K = Z.K) (T : ClsA Z cs k) (hf : Z.AN k = f) (ha : PE X a (SE Z fa)) (hb : attributeBase a f X.env (eval a X.env) = eval a X.env) : PE X (.Attribute a f pos) (SE Z (eFld cs k fa)) := by
  subst hf
  refine PE.imp (pe_fld ha hb) fun σ H Q ⟨r, m, s, h, q⟩ => ?_
  refine SE.then h q fun r1 m1 H1 x u h1 g1 hu q1 => ?_
  cases x with
  | ref i =>
    cases hu with
    | ref e =>
      dsimp only [fld] at q1
      split at q1
      · rename_i c fs h2
        split at q1
        · rename_i hc
          obtain ⟨dx, us, e1, s1⟩ := ins_of h1.R e h2
          split at q1
          · rename_i v hv
            obtain ⟨w, e2, e3⟩ := s1.look hv
            obtain ⟨t1, t2⟩ := T.2 c hc
            exact ⟨_, _, dx, us, w, rfl, e1, by rw [hK]; exact t1, by rw [hK]; exact t2, e2, q1.ok h1.R _ e3⟩
          · exact q1.elim
        · exact q1.elim
      · exact q1.elim
  | _ => exact q1.elim
theorem ssFld {cs : List Nat} {k : Nat} {f : Str} {pos' : Pos} (hK : X.K = Z.K) (T : ClsA Z cs k) (hf : Z.AN k = f) (ho : PE X o (SE Z fo)) (ha : PE X a (SE Z fa)) (hs : swapsWith a (some (.Attribute o f pos')) pos.line X.env = pure false) :
    PS X (.Assign [.Attribute o f pos'] a pos) (SSt Z (MP.sFld cs fo k fa)) := by
  subst hf
  refine PS.imp (ps_fld ho ha hs) fun D σ H ⟨r, m, s, h, q⟩ => ?_
  refine SE.then h q fun r1 m1 H1 x u h1 g1 hu q1 => ?_
  refine SE.then h1 q1 fun r2 m2 H2 y w h2 g2 hw q2 => ?_
  cases y with
  | ref i =>
    cases hw with
    | ref e =>
      dsimp only [putFld] at q2
      split at q2
      · rename_i c fs h3
        split at q2
        · rename_i hc
          obtain ⟨dx, us, e1, s1⟩ := ins_of h2.R e h3
          obtain ⟨t1, t2⟩ := T.2 c hc.1
          refine ⟨_, _, dx, us, rfl, e1, by rw [hK]; exact t1, by rw [hK]; exact t2, by rw [← s1.length]; exact Nat.lt_trans hc.2 (by decide), ?_⟩
          have fr : Free H2 _ := .inr (by rw [e1]; trivial)
          have t : TX Z.K H2 (L2.upd H2 _ (.ins (Z.CA c) dx (putF (Z.AN k) u us))) := TX.upd fr
          have R3 := h2.R.set (o := .ins (Z.CA c) dx (putF (Z.AN k) u us)) e (x := .ins c (putN k x fs)) ⟨dx, _, upd_same, FR.put T.1 ((hu.mono g2.p g2.t).mono (Pre.refl _) t) (s1.mono (Pre.refl _) t)⟩
          exact q2 _ _ ⟨Pre.refl _, t, R3⟩ σ (h2.S.mono (Pre.refl _) t)
        · exact q2.elim
      · exact q2.elim
  | _ => exact q2.elim
theorem sgSub {vs : List Nat} (ho : PE X a (SE Z fa)) (hi : PE X b (SE Z fb))
    (hh : ∀ v, assign (.Subscript a b pos) X.env v = (do
      let ov ← holding [v] (eval a X.env)
      let iv ← holding [v, ov] (eval b X.env)
      standAt pos
      holding [v, ov, iv] (setItem ov iv v)
      release [v, ov, iv] []) := by intro _; rfl) : PG X (.Subscript a b pos) (SG Z vs (gSub fa fb)) := by
  refine PG.imp (pg_sub ho hi set_list hh) fun u σ H Q ⟨r, m, s, x, h, hu, q⟩ => ?_
  refine SE.then h q fun r1 m1 H1 y w h1 g1 hw q1 => ?_
  refine SE.then h1 q1 fun r2 m2 H2 z t h2 g2 ht q2 => ?_
  cases y with
  | ref i =>
    cases hw with
    | ref e =>
      have e := g2.p.get e
      cases z with
      | int k =>
        cases ht
        dsimp only [setIx] at q2
        split at q2
        · rename_i xs h3
          split at q2
          · rename_i j hj
            obtain ⟨us, e1, s1⟩ := lst_of h2.R e h3
            refine ⟨_, us, k, j, rfl, rfl, e1, by rw [← s1.length]; exact hj, ?_⟩
            have fr : Free H2 _ := .inr (by rw [e1]; trivial)
            have t : TX Z.K H2 (L2.upd H2 _ (.lst (us.set j u))) := TX.upd fr
            have hu2 := ((hu.mono (g1.trans g2).p (g1.trans g2).t).mono (Pre.refl _) t)
            have R3 := h2.R.set (o := .lst (us.set j u)) e (x := .lst (xs.set j x)) ⟨_, upd_same, RVs.set hu2 j (s1.mono (Pre.refl _) t)⟩
            exact q2 _ _ ⟨Pre.refl _, t, R3⟩ σ (h2.S.mono (Pre.refl _) t) (SetIn.refl _ _)
          · exact q2.elim
        · exact q2.elim
      | _ => exact q2.elim
  | _ => exact q2.elim
/-! ### built-ins by name -/
theorem SE.opn {g : MH → List MV → Res MV} {σ : St} {H : Hp} {Q : VK} (h : SE Z (eL g la) σ H Q) : tCB (SOn Z g) (SA Z la) σ H Q := by
  obtain ⟨r, m, s, h, q⟩ := h
  refine SA.then h q fun r1 m1 H1 xs us h1 g1 hus q1 => ?_
  exact ⟨r1, m1, xs, h1.R, hus, q1⟩
theorem sB {id : String} {g : MH → List MV → Res MV} {x : Str} {p : Pos} (hc : CallR X (.builtin id) (SOn Z g)) (hg : Gl X x) (hm : X.mg x = none) (hv : bootBuiltins x = some (.builtin id)) (ha : PA X (a :: es) (SA Z la)) (hn : x ≠ "__name__" := by decide) (hdb : (x == ("__debug__" : Str)) = false := by decide)
    (he : starEach (a :: es) X.env = (false, eval a X.env) :: starEach es X.env := by rfl) (hpl : (backTo pos (starEach es X.env)).any (·.1) = false := by rfl) : PE X (.Call (.Name x p) (a :: es) [] pos) (SE Z (eL g la)) :=
  PE.imp (pe_callB hc hg hm hv ha hn hdb he hpl) fun _ _ _ h => h.opn
theorem sBT {T : String} {g : MH → List MV → Res MV} {x : Str} {p : Pos} (hc : CallR X (.type T) (SOn Z g)) (hg : Gl X x) (hm : X.mg x = none) (hv : bootBuiltins x = some (.type T)) (ha : PA X (a :: es) (SA Z la)) (hn : x ≠ "__name__" := by decide) (hdb : (x == ("__debug__" : Str)) = false := by decide)
    (he : starEach (a :: es) X.env = (false, eval a X.env) :: starEach es X.env := by rfl) (hpl : (backTo pos (starEach es X.env)).any (·.1) = false := by rfl) : PE X (.Call (.Name x p) (a :: es) [] pos) (SE Z (eL g la)) :=
  PE.imp (pe_callTy hc hg hm hv ha hn hdb he hpl) fun _ _ _ h => h.opn
theorem fz_tyx {K : PySem.W.Frag} {H : Hp} {p : Addr} {us : List V} (h : FzL K H p us) : TyX K H (.ref p) (.type "list") := by
  rcases h with ⟨o, h⟩ | ⟨o, its, n, h1, h2, _⟩
  · exact .base (.frz h)
  · exact .kList h1 h2
theorem sq_tyx {K : PySem.W.Frag} {H : Hp} {p : Addr} {us : List V} (h : SqT K H p us) : TyX K H (.ref p) (.type "tuple") := by
  rcases h with (h | ⟨o, h⟩) | ⟨o, its, n, h1, h2, _⟩
  · exact .base (.tup h)
  · exact .fTuple h
  · exact .kTuple h1 h2
theorem tyx_of {r : List Addr} {m : MH} {H : Hp} {x : MV} {u : V} {n : String} (R : Rep Z r m H) (h : RV Z.K r H x u) (e : tyName m x = some n) : TyX Z.K H u (.type n) := by
  cases h with
  | non => cases e; exact .base .non
  | bl b => cases e; exact .base (.bl b)
  | int i => cases e; exact .base (.int i)
  | str x => cases e; exact .base (.str x)
  | tup q s => cases e; exact sq_tyx q
  | fro q s => cases e; exact fz_tyx q
  | ref q =>
    dsimp only [tyName] at e
    split at e
    · rename_i xs h1
      cases e
      obtain ⟨us, z, _⟩ := R.obj _ _ _ q h1
      exact .base (.lst z)
    · rename_i xs h1
      cases e
      obtain ⟨us, z, _⟩ := R.obj _ _ _ q h1
      exact .base (.dK z)
    · rename_i xs h1
      cases e
      obtain ⟨us, z, _⟩ := R.obj _ _ _ q h1
      exact .base (.dT z)
    · cases e
theorem tyNames {m : MH} {x : MV} {n : String} (e : tyName m x = some n) : n ∈ ["NoneType", "bool", "int", "str", "tuple", "list", "dict"] := by
  cases x with
  | ref p =>
    dsimp only [tyName] at e
    split at e <;> first | (cases e; simp) | cases e
  | _ => cases e; simp
theorem kits : ∀ a ∈ ["NoneType", "bool", "int", "str", "tuple", "list", "dict"], ∀ b ∈ ["bool", "int", "str", "tuple", "list", "dict"], kitB a b = some (isT a b) := by decide +kernel
/-- isinstance(x, T), T a built-in type -/
theorem sIsi {T : String} {t : Str} {p p3 : Pos} (hK : X.K = Z.K) (hT : T ∈ ["bool", "int", "str", "tuple", "list", "dict"]) (hg : Gl X "isinstance") (hm : X.mg "isinstance" = none) (hg2 : Gl X t) (hm2 : X.mg t = none) (hv2 : bootBuiltins t = some (.type T))
    (ha : PE X a (SE Z fa)) (hn : t ≠ "__name__") (hdb : (t == ("__debug__" : Str)) = false)
    (hs1 : starEach [a, .Name t p3] X.env = (false, eval a X.env) :: starEach [.Name t p3] X.env := by rfl) (hpl : (backTo pos (starEach [.Name t p3] X.env)).any (·.1) = false := by rfl) :
    PE X (.Call (.Name "isinstance" p) [a, .Name t p3] [] pos) (SE Z (e1 (isi T) fa)) := by
  refine PE.imp (pe_callB call_isi hg hm (by decide +kernel) (pa_cons ha (pa_cons (pe_bltn (v := .ty T) hg2 hm2 hv2 rfl hn hdb) pa_nil) hs1) (by decide) (by decide) hs1 hpl) fun σ H Q ⟨r, m, s, h, q⟩ => ?_
  refine SE.then h q fun r1 m1 H1 x u h1 g1 hu q1 => ?_
  unfold isi at q1
  split at q1
  · rename_i n e
    refine ⟨u, .ty T, _, .type T, isT n T, rfl, .ty T, by rw [hK]; exact tyx_of h1.R hu e, kit_ty (kits n (tyNames e) T hT), q1.ok h1.R _ (.bl _)⟩
  · exact q1.elim
theorem rvs1 {K : PySem.W.Frag} {r : List Addr} {H : Hp} {x : MV} {us : List V} (h : RVs K r H [x] us) : ∃ u, us = [u] ∧ RV K r H x u := by
  cases h with
  | cons a b => cases b; exact ⟨_, rfl, a⟩
theorem rvs2 {K : PySem.W.Frag} {r : List Addr} {H : Hp} {x y : MV} {us : List V} (h : RVs K r H [x, y] us) : ∃ u w, us = [u, w] ∧ RV K r H x u ∧ RV K r H y w := by
  cases h with
  | cons a b =>
    obtain ⟨w, rfl, q⟩ := rvs1 b
    exact ⟨_, _, rfl, a, q⟩
/-- one place in the heap is another's -/
theorem cr_len (hK : X.K = Z.K) : CallR X (.builtin "len") (SOn Z len) := by
  intro pins s σ H us ws Q I rr ⟨r, m, xs, R, hs, q⟩
  unfold len at q
  split at q
  · rename_i x
    obtain ⟨u, rfl, h⟩ := rvs1 hs
    cases h
    split at q
    · rename_i hl
      exact call_len pins s σ H _ ws Q I rr ⟨.str x, x.length, rfl, ⟨big_line hl, rfl⟩, q.ok R _ (.int _)⟩
    · exact q.elim
  · rename_i x
    obtain ⟨u, rfl, h⟩ := rvs1 hs
    cases h with
    | tup a b => exact call_len_seq pins s σ H _ ws Q I rr ⟨_, _, rfl, .inr (by rw [hK]; exact a), by rw [← b.length]; exact q.ok R _ (.int _)⟩
  · rename_i x
    obtain ⟨u, rfl, h⟩ := rvs1 hs
    cases h with
    | fro a b => exact call_len_seq pins s σ H _ ws Q I rr ⟨_, _, rfl, .inl (by rw [hK]; exact a.sq), by rw [← b.length]; exact q.ok R _ (.int _)⟩
  · rename_i p
    obtain ⟨u, rfl, h⟩ := rvs1 hs
    cases h with
    | ref e =>
      split at q
      · rename_i xs h1
        obtain ⟨us, z, b⟩ := R.obj _ _ _ e h1
        exact call_len_seq pins s σ H _ ws Q I rr ⟨_, _, rfl, .inl (SqL.of z), by rw [← b.length]; exact q.ok R _ (.int _)⟩
      · exact q.elim
  · exact q.elim
theorem cr_max2 (hc : X.calm = true) : CallR X (.builtin "max") (SOn Z max2) := by
  intro pins s σ H us ws Q I rr ⟨r, m, xs, R, hs, q⟩
  unfold max2 at q
  split at q
  · obtain ⟨u, w, rfl, h1, h2⟩ := rvs2 hs
    cases h1; cases h2
    exact call_max2 hc pins s σ H _ ws Q I rr ⟨_, _, rfl, q.ok R _ (.int _)⟩
  · exact q.elim
theorem cr_min2 (hc : X.calm = true) : CallR X (.builtin "min") (SOn Z min2) := by
  intro pins s σ H us ws Q I rr ⟨r, m, xs, R, hs, q⟩
  unfold min2 at q
  split at q
  · obtain ⟨u, w, rfl, h1, h2⟩ := rvs2 hs
    cases h1; cases h2
    exact call_min2 hc pins s σ H _ ws Q I rr ⟨_, _, rfl, q.ok R _ (.int _)⟩
  · exact q.elim
theorem cr_int : CallR X (.type "int") (SOn Z toInt) := by
  intro pins s σ H us ws Q I rr ⟨r, m, xs, R, hs, q⟩
  unfold toInt at q
  split at q
  · obtain ⟨u, rfl, h⟩ := rvs1 hs
    cases h
    exact call_int1 pins s σ H _ ws Q I rr (.inl ⟨_, rfl, q.ok R _ (.int _)⟩)
  · obtain ⟨u, rfl, h⟩ := rvs1 hs
    cases h
    exact call_int1 pins s σ H _ ws Q I rr (.inr ⟨_, rfl, q.ok R _ (.int _)⟩)
  · exact q.elim
theorem log_of {i : Int} {n : Nat} (h : bits i n = true) (h0 : 0 < n) : i.natAbs.log2 < n := PySem.Flt.log2_lt_of h0 (of_decide_eq_true h)
theorem cr_str : CallR X (.type "str") (SOn Z toStr) := by
  intro pins s σ H us ws Q I rr ⟨r, m, xs, R, hs, q⟩
  unfold toStr at q
  split at q
  · obtain ⟨u, rfl, h⟩ := rvs1 hs
    cases h
    split at q
    · rename_i hb
      exact call_str_int pins s σ H _ ws Q I rr ⟨_, rfl, Nat.lt_trans (log_of hb (by decide)) (by decide), q.ok R _ (.str _)⟩
    · exact q.elim
  · exact q.elim
theorem cr_repr : CallR X (.builtin "repr") (SOn Z toStr) := by
  intro pins s σ H us ws Q I rr ⟨r, m, xs, R, hs, q⟩
  unfold toStr at q
  split at q
  · obtain ⟨u, rfl, h⟩ := rvs1 hs
    cases h
    split at q
    · rename_i hb
      exact SkE.call_repr_int pins s σ H _ ws Q I rr ⟨_, rfl, Nat.lt_trans (log_of hb (by decide)) (by decide), q.ok R _ (.str _)⟩
    · exact q.elim
  · exact q.elim
theorem cr_tuple (hK : X.K = Z.K) : CallR X (.type "tuple") (SOn Z toTup) := by
  intro pins s σ H us ws Q I rr ⟨r, m, xs, R, hs, q⟩
  unfold toTup at q
  split at q
  · rename_i v
    obtain ⟨u, rfl, h⟩ := rvs1 hs
    split at q
    · rename_i ys e
      cases h with
      | tup t b => cases e; exact call_tuple_of pins s σ H _ ws Q I rr ⟨_, _, rfl, .inr ⟨by rw [hK]; exact t, q.ok R _ (.tup t b)⟩⟩
      | fro t b =>
        cases e
        refine call_tuple_of pins s σ H _ ws Q I rr ⟨_, _, rfl, .inl ⟨by rw [hK]; exact t.sq, fun l hl => ?_⟩⟩
        rename_i us0
        have tt : TX Z.K H (L2.upd H l (.tup us0)) := TX.upd (.inl hl)
        exact q r _ ⟨Pre.refl _, tt, R.garb hl⟩ _ (.tup (SqT.of upd_same) (b.mono (Pre.refl _) tt))
      | ref e1 =>
        obtain ⟨us, z, b⟩ := lst_of R e1 e
        refine call_tuple_of pins s σ H _ ws Q I rr ⟨_, _, rfl, .inl ⟨SqL.of z, fun l hl => ?_⟩⟩
        have tt : TX Z.K H (L2.upd H l (.tup us)) := TX.upd (.inl hl)
        exact q r _ ⟨Pre.refl _, tt, R.garb hl⟩ _ (.tup (SqT.of upd_same) (b.mono (Pre.refl _) tt))
      | _ => cases e
    · exact q.elim
  · exact q.elim
theorem cr_list (hK : X.K = Z.K) : CallR X (.type "list") (SOn Z toLst) := by
  intro pins s σ H us ws Q I rr ⟨r, m, xs, R, hs, q⟩
  unfold toLst at q
  split at q
  · rename_i v
    obtain ⟨u, rfl, h⟩ := rvs1 hs
    split at q
    · rename_i ys e
      obtain ⟨p, zs, rfl, s1, s2⟩ := seq_of R h e
      refine call_list_of pins s σ H _ ws Q I rr ⟨_, _, rfl, by rw [hK]; exact s2, fun l hl => ?_⟩
      obtain ⟨z1, z2⟩ := Fin.new (ho := .lst zs) R q hl ⟨_, upd_same, s1.mono (Pre.one _ _) (TX.upd (.inl hl))⟩
      exact z1 _ z2
    · exact q.elim
  · exact q.elim
/-! ### methods of built-ins -/
def SMt (Z : Zc) (g : MH → MV → List MV → Res MV) : V → List V → Hp → VK → Prop := fun u us H Q => ∃ r m x xs, Rep Z r m H ∧ RV Z.K r H x u ∧ RVs Z.K r H xs us ∧ Fin Z r H (QV Z Q) (g m x xs)
theorem fz_ex {K : PySem.W.Frag} {H : Hp} {p : Addr} {us : List V} (h : FzL K H p us) : ∃ xs, SqL K H p xs := ⟨us, h.sq⟩
theorem tyV_of {r : List Addr} {m : MH} {H : Hp} {x : MV} {u : V} {T : String} (R : Rep Z r m H) (h : RV Z.K r H x u) (e : tyName m x = some T) (hT : T ∈ ["str", "int", "list", "dict"]) : tyV Z.K T u H := by
  cases h with
  | non => cases e; simp at hT
  | bl b => cases e; simp at hT
  | int i => cases e; exact rfl
  | str x => cases e; exact rfl
  | tup q s => cases e; simp at hT
  | fro q s => cases e; exact .inl ⟨rfl, fz_ex q⟩
  | ref q =>
    dsimp only [tyName] at e
    split at e
    · rename_i xs h1
      cases e
      obtain ⟨us, z, _⟩ := R.obj _ _ _ q h1
      exact .inl ⟨rfl, us, SqL.of z⟩
    · rename_i xs h1
      cases e
      obtain ⟨us, z, _⟩ := R.obj _ _ _ q h1
      exact .inr (.inr (.inl ⟨rfl, .inl ⟨us, z⟩⟩))
    · rename_i xs h1
      cases e
      obtain ⟨us, z, _⟩ := R.obj _ _ _ q h1
      exact .inr (.inr (.inl ⟨rfl, .inr ⟨us, z⟩⟩))
    · cases e
variable {name : Str} {T id : String} {apos : Pos} {g : MH → MV → List MV → Res MV}
theorem sBm (hK : X.K = Z.K) (hT : T ∈ ["str", "int", "list", "dict"]) (pa : PlainAttrs T) (slot : Slot T name id) (hty : typeOf (.builtin id) = pure (.type "method_descriptor")) (hm : MtR X id (SMt Z g)) (ho : PE X o (SE Z fo)) (ha : PA X (a :: es) (SA Z la))
    (hbase : attributeBase o name X.env (eval o X.env) = eval o X.env := by rfl)
    (hfew : ((backTo pos (starEach (a :: es) X.env)).all (fun x => !x.1) && (backToKw pos (keywordEach [] X.env)).all (fun x => x.1.isSome)
      && decide ((a :: es).length + ([] : List Keyword).length + (if ([] : List Keyword).isEmpty then 0 else 1) < 30)) = true := by rfl)
    (hline : (apos.endLine == pos.line) = true := by rfl) (hs : starEach (a :: es) X.env = (false, eval a X.env) :: starEach es X.env := by rfl) (hplain : (backTo pos (starEach es X.env)).any (·.1) = false := by rfl) :
    PE X (.Call (.Attribute o name apos) (a :: es) [] pos) (SE Z (eBm T g fo la)) := by
  refine PE.imp (pe_bm pa slot hty hm ho ha hbase hfew hline hs hplain) fun σ H Q ⟨r, m, s, h, q⟩ => ?_
  refine SE.then h q fun r1 m1 H1 x u h1 g1 hu q1 => ?_
  split at q1
  · rename_i e
    refine ⟨by rw [hK]; exact tyV_of h1.R hu e hT, ?_⟩
    refine SA.then h1 q1 fun r2 m2 H2 xs us h2 g2 hus q2 => ?_
    exact ⟨r2, m2, x, xs, h2.R, hu.mono g2.p g2.t, hus, q2⟩
  · exact q1.elim
theorem sBm0 (hK : X.K = Z.K) (hT : T ∈ ["str", "int", "list", "dict"]) (pa : PlainAttrs T) (slot : Slot T name id) (hty : typeOf (.builtin id) = pure (.type "method_descriptor")) (hm : MtR X id (SMt Z g)) (ho : PE X o (SE Z fo))
    (hbase : attributeBase o name X.env (eval o X.env) = eval o X.env := by rfl) (hline : (apos.endLine == pos.line) = true := by rfl) :
    PE X (.Call (.Attribute o name apos) [] [] pos) (SE Z (eBm T g fo lNil)) := by
  refine PE.imp (pe_bm0 pa slot hty hm ho hbase hline) fun σ H Q ⟨r, m, s, h, q⟩ => ?_
  refine SE.then h q fun r1 m1 H1 x u h1 g1 hu q1 => ?_
  split at q1
  · rename_i e
    exact ⟨by rw [hK]; exact tyV_of h1.R hu e hT, r1, m1, x, [], h1.R, hu, .nil, q1⟩
  · exact q1.elim
theorem mm_append : MtR X "list.append" (SMt Z append) := by
  intro pins s σ H x xs v us Q I rx rs ⟨r, m, y, ys, R, hy, hys, q⟩
  unfold append at q
  split at q
  · rename_i v
    obtain ⟨u, rfl, hu⟩ := rvs1 hys
    split at q
    · rename_i p
      cases hy with
      | ref e =>
        split at q
        · rename_i zs e1
          split at q
          · rename_i hl
            obtain ⟨ws, z, b⟩ := lst_of R e e1
            have hb : big < sizeLine := by decide
            refine mt_append pins s σ H _ _ _ us Q I rx rs ⟨_, ws, u, rfl, rfl, z, by rw [← b.length]; omega, ?_⟩
            have fr : Free H _ := .inr (by rw [z]; trivial)
            have t : TX Z.K H (L2.upd H _ (.lst (ws ++ [u]))) := TX.upd fr
            have R3 := R.set (o := .lst (ws ++ [u])) e (x := .lst (zs ++ [v])) ⟨_, upd_same, (b.append (.cons hu .nil)).mono (Pre.refl _) t⟩
            exact q _ _ ⟨Pre.refl _, t, R3⟩ _ .non
          · exact q.elim
        · exact q.elim
    · exact q.elim
  · exact q.elim
theorem sBits (ho : PE X o (SE Z fo)) (hbase : attributeBase o "bit_length" X.env (eval o X.env) = eval o X.env := by rfl) (hline : (apos.endLine == pos.line) = true := by rfl) : PE X (.Call (.Attribute o "bit_length" apos) [] [] pos) (SE Z (eBits fo)) := by
  refine PE.imp (pe_bits ho hbase hline) fun σ H Q ⟨r, m, s, h, q⟩ => ?_
  refine SE.then h q fun r1 m1 H1 x u h1 g1 hu q1 => ?_
  cases x with
  | int i => cases hu; exact ⟨i, rfl, q1.ok h1.R _ (.int _)⟩
  | _ => exact q1.elim
/-! ### while -/
variable {ta : TSm} {st : List Stmt} {f : SS}
theorem ssWhile (hp : PassesOwn (model X.prog X.w) X.A X.env X.xe) (hc : PT X c (STt Z ta)) (hb : PSs X st (SSt Z f)) : PS X (.While c st [] pos) (SSt Z (sWhile ta f)) := by
  refine PS.imp (ps_while hp hc hb) fun D σ H ⟨r, m, s, h, q⟩ => ?_
  refine ⟨fun n σ H => ∃ r m s, S0 Z r m H s σ ∧ Fin Z r H (FlowOk Z D) (whileL ta f n s m), ⟨loops, r, m, s, h, q⟩, ?_⟩
  rintro n σ H ⟨r, m, s, h, q⟩
  cases n with
  | zero => exact q.elim
  | succ n =>
    refine STt.then h q fun r1 m1 H1 t h1 g1 q1 => ?_
    cases t with
    | false =>
      refine iteF ?_
      rw [if_neg Bool.false_ne_true] at q1
      exact q1.ok h1.R σ h1.S
    | true =>
      refine iteT ?_
      rw [if_pos rfl] at q1
      refine ⟨fun σ' H' => ∃ r m s, S0 Z r m H' s σ' ∧ Fin Z r H' (FlowOk Z D) (whileL ta f n s m), fun σ' H' z => ⟨n, Nat.lt_succ_self n, z⟩, r1, m1, s, h1, ?_⟩
      have q2 := Fin.bind q1
      revert q2
      cases f s m1 with
      | ok x m2 =>
        intro q2 r' H' gg
        obtain ⟨m', e, g2, q3⟩ := q2 r' H' gg
        cases e
        cases x with
        | nx s2 => exact fun σ' hs => ⟨r', m2, s2, ⟨gg.R, hs⟩, q3⟩
        | ct s2 => exact fun σ' hs => ⟨r', m2, s2, ⟨gg.R, hs⟩, q3⟩
        | bk s2 => exact fun σ' hs => q3.ok gg.R σ' hs
        | rt v => exact q3.ok gg.R
      | exc c v m => exact fun z => z
      | bad => exact fun z => z
/-! ### what is walked -/
/-- J walks the items xs while gd holds -/
def Wk (Z : Zc) (J : It) (xs : List MV) (gd : Guard) (r : List Addr) (H : Hp) : Prop :=
  ∃ (G : Hp → Prop) (Y : Nat → Hp → V → Hp → Prop), Walk J xs.length G Y ∧ ∀ r' m' H', Go Z r H r' m' H' → gd.ok m' = true → G H' ∧
    ∀ i u H'' x, xs[i]? = some x → Y i H' u H'' → Go Z r' H' r' m' H'' ∧ RV Z.K r' H'' x u
def SIt (Z : Zc) (f : IS) : TI := fun σ H R => ∃ r m s, S0 Z r m H s σ ∧ Fin Z r H (fun r' H' p => ∀ J, Wk Z J p.1 p.2 r' H' → R J H') (f s m)
theorem PI.imp {tg it : Expr} {w w' : TI} (h : PI X tg it w) (k : ∀ σ H R, w' σ H R → w σ H R) : PI X tg it w' := ⟨fun pins s σ H R I q => h.run pins s σ H R I (k _ _ _ q)⟩
theorem PI.or {tg it : Expr} {w w' : TI} (h : PI X tg it w) (h' : PI X tg it w') : PI X tg it (fun σ H R => w σ H R ∨ w' σ H R) := ⟨fun pins s σ H R I q => q.elim (h.run pins s σ H R I) (h'.run pins s σ H R I)⟩
theorem guard_ok {p : Nat} {xs : List MV} {m : MH} (h : Guard.ok (some (p, xs)) m = true) : m[p]? = some (.lst xs) := by
  dsimp only [Guard.ok] at h
  split at h
  · rename_i ys e
    have := of_decide_eq_true h
    subst this
    exact e
  · cases h
theorem wk_list {r : List Addr} {H : Hp} {p : Nat} {a : Addr} {xs : List MV} (e : r[p]? = some a) (hl : ∀ r' m' H', Go Z r H r' m' H' → True) : Wk Z (Itl Z.K a) xs (some (p, xs)) r H := by
  refine ⟨fun H => ∃ us, SqL Z.K H a us ∧ us.length = xs.length, fun i H u H' => H' = H ∧ ∀ us, SqL Z.K H a us → us[i]? = some u, ?_, fun r' m' H' g hg => ?_⟩
  · refine ⟨fun i H hi ⟨us, q, l⟩ => ⟨us, us[i], q, by simp [l, hi]⟩, fun H ⟨us, q, l⟩ => ⟨us, q, by omega⟩, fun i H x H' hi _ y => y⟩
  · obtain ⟨us, z, b⟩ := g.R.obj p a _ (g.p.get e) (guard_ok hg)
    refine ⟨⟨us, SqL.of z, b.length.symm⟩, fun i u H'' x hx ⟨e1, e2⟩ => ?_⟩
    subst e1
    obtain ⟨w, w1, w2⟩ := b.get hx
    have := e2 us (SqL.of z)
    rw [w1] at this
    cases this
    exact ⟨Go.refl g.R, w2⟩
theorem wk_fro {r : List Addr} {H : Hp} {a : Addr} {xs : List MV} {us : List V} (q : FzL Z.K H a us) (b : RVs Z.K r H xs us) : Wk Z (Itl Z.K a) xs none r H := by
  refine ⟨fun H => SqL Z.K H a us, YAt us, by rw [b.length]; exact walk_list, fun r' m' H' g _ => ⟨(g.t.f _ _ q).sq, fun i u H'' x hx ⟨e1, e2⟩ => ?_⟩⟩
  subst e1
  obtain ⟨w, w1, w2⟩ := (b.mono g.p g.t).get hx
  rw [w1] at e2
  cases e2
  exact ⟨Go.refl g.R, w2⟩
theorem wk_tup {r : List Addr} {H : Hp} {a : Addr} {xs : List MV} {us : List V} (q : SqT Z.K H a us) (b : RVs Z.K r H xs us) : Wk Z (Itt Z.K a) xs none r H := by
  refine ⟨fun H => SqT Z.K H a us, YAt us, by rw [b.length]; exact walk_tup, fun r' m' H' g _ => ⟨g.t.t _ _ q, fun i u H'' x hx ⟨e1, e2⟩ => ?_⟩⟩
  subst e1
  obtain ⟨w, w1, w2⟩ := (b.mono g.p g.t).get hx
  rw [w1] at e2
  cases e2
  exact ⟨Go.refl g.R, w2⟩
variable {tg : Expr}
/-- a list or a tuple -/
theorem siSeq (hK : X.K = Z.K) (ha : PE X a (SE Z fa)) : PI X tg a (SIt Z (iSeq fa)) := by
  refine PI.imp (PI.or (pi_list ha) (pi_tup ha)) fun σ H R ⟨r, m, s, h, q⟩ => ?_
  rw [hK]
  have q2 := Fin.bind (x := fa s m) q
  cases e : fa s m with
  | ok v m1 =>
    rw [e] at q2
    have key : ∀ (P : VK), (∀ r' H' u, Go Z r H r' m1 H' → RV Z.K r' H' v u → P u H') → SE Z fa σ H P := fun P k => ⟨r, m, s, h, by rw [e]; exact fun r' H' g u hu => k r' H' u g hu⟩
    cases v with
    | tup xs =>
      refine .inr (key _ fun r' H' u g hu => ?_)
      obtain ⟨m', e0, g1, q3⟩ := q2 r' H' g
      cases e0
      cases hu with
      | tup t b => exact ⟨_, rfl, ⟨_, t⟩, q3.ok g1.R _ (wk_tup t b)⟩
    | fro xs =>
      refine .inl (key _ fun r' H' u g hu => ?_)
      obtain ⟨m', e0, g1, q3⟩ := q2 r' H' g
      cases e0
      cases hu with
      | fro t b => exact ⟨_, rfl, ⟨_, t.sq⟩, q3.ok g1.R _ (wk_fro t b)⟩
    | ref p =>
      refine .inl (key _ fun r' H' u g hu => ?_)
      obtain ⟨m', e0, g1, q3⟩ := q2 r' H' g
      cases e0
      cases hu with
      | ref t =>
        dsimp only at q3
        split at q3
        · rename_i xs h1
          obtain ⟨us, z, b⟩ := lst_of g1.R t h1
          exact ⟨_, rfl, ⟨_, SqL.of z⟩, q3.ok g1.R _ (wk_list t fun _ _ _ _ => trivial)⟩
        · exact q3.elim
    | _ =>
      refine .inl (key _ fun r' H' u g hu => ?_)
      obtain ⟨m', e0, g1, q3⟩ := q2 r' H' g
      cases e0
      exact q3.elim
  | exc c v m => rw [e] at q2; exact q2.elim
  | bad => rw [e] at q2; exact q2.elim
theorem upto_get : ∀ (n : Nat) (lo : Int) (i : Nat) (x : MV), (upto lo n)[i]? = some x → x = .int (lo + i)
  | 0, _, _, _, e => by simp [upto] at e
  | n + 1, lo, 0, x, e => by simp [upto] at e; subst e; simp
  | n + 1, lo, i + 1, x, e => by
    simp only [upto, List.getElem?_cons_succ] at e
    have := upto_get n (lo + 1) i x e
    rw [this]
    congr 1
    omega
theorem upto_len : ∀ (n : Nat) (lo : Int), (upto lo n).length = n
  | 0, _ => rfl
  | n + 1, lo => by simp [upto, upto_len n]
theorem wk_range {r : List Addr} {H : Hp} {lo : Int} {n : Nat} : Wk Z (Itr lo n) (upto lo n) none r H := by
  refine ⟨fun _ => True, YFn fun i => .int (lo + i), by rw [upto_len]; exact walk_range, fun r' m' H' g _ => ⟨trivial, fun i u H'' x hx ⟨e1, e2⟩ => ?_⟩⟩
  subst e1
  rw [e2, upto_get _ _ _ _ hx]
  exact ⟨Go.refl g.R, .int _⟩
theorem bits60 {i : Int} (h : bits i 60 = true) : -(2 ^ 62) ≤ i ∧ i < 2 ^ 62 := by
  have := of_decide_eq_true h
  omega
theorem siRange1 {p : Pos} (hg : Gl X "range") (hm : X.mg "range" = none) (ha : PE X a (SE Z fa)) (hs : starEach [a] X.env = [(false, eval a X.env)] := by rfl) : PI X tg (.Call (.Name "range" p) [a] [] pos) (SIt Z (iRange1 fa)) := by
  refine PI.imp (pi_range1 hg hm (pa_cons ha pa_nil (hs.trans rfl)) hs) fun σ H R ⟨r, m, s, h, q⟩ => ?_
  refine SE.then h q fun r1 m1 H1 x u h1 g1 hu q1 => ?_
  cases x with
  | int n =>
    cases hu
    dsimp only at q1
    split at q1
    · rename_i hb
      exact ⟨n, rfl, (bits60 hb).1, (bits60 hb).2, q1.ok h1.R _ wk_range⟩
    · exact q1.elim
  | _ => exact q1.elim
theorem siRange2 {p : Pos} (hg : Gl X "range") (hm : X.mg "range" = none) (ha : PE X a (SE Z fa)) (hb : PE X b (SE Z fb)) (hs : starEach [a, b] X.env = [(false, eval a X.env), (false, eval b X.env)] := by rfl) (hs2 : starEach [b] X.env = [(false, eval b X.env)] := by rfl) :
    PI X tg (.Call (.Name "range" p) [a, b] [] pos) (SIt Z (iRange2 fa fb)) := by
  refine PI.imp (pi_range2 hg hm (pa_cons ha (pa_cons hb pa_nil (hs2.trans rfl)) (by rw [hs, hs2])) hs hs2) fun σ H R ⟨r, m, s, h, q⟩ => ?_
  refine SE.then h q fun r1 m1 H1 x u h1 g1 hu q1 => ?_
  refine SE.then h1 q1 fun r2 m2 H2 y w h2 g2 hw q2 => ?_
  cases x with
  | int l =>
    cases hu
    cases y with
    | int n =>
      cases hw
      dsimp only at q2
      split at q2
      · rename_i hb
        rw [Bool.and_eq_true] at hb
        exact ⟨l, n, rfl, ⟨(bits60 hb.1).1, (bits60 hb.1).2, (bits60 hb.2).1, (bits60 hb.2).2⟩, q2.ok h2.R _ wk_range⟩
      · exact q2.elim
    | _ => exact q2.elim
  | _ => exact q2.elim
end
end MP
set_option maxRecDepth 100000
/-! MEnum: enumerate of a tuple; enumerate, zip as what is walked. -/
namespace MP
open PySem PySem.Spec PyProof.Rows L2
theorem meets_enumerate_newT {v : Value} {o : Obj} {H : Heap → Prop} (B : Begins v o H) :
    Meets (Builtin.«enumerate.__new__» ⟨[.type "enumerate", v], []⟩) (fun _ R s => H s.heap ∧
      R (.ok (.ret (.ref (s.heap.push o).objs.size))) { s with heap := (s.heap.push o).push { cls := .type "enumerate", data := .fields #[.none, .bool false, .ref s.heap.objs.size, rawInt 0, .none, .none] } }) :=
  .of_wp fun prog w A R s h => by
    obtain ⟨hp, g, d, tk, os⟩ := s; obtain ⟨h1, h⟩ := h
    have hsub := sub_enumerate
    have q1 : ∀ {A' : Around} {E : Value → Shared → Prop} {Q : Value → Shared → Prop}, Q (.ref hp.objs.size) ⟨hp.push o, g, d, tk, os⟩ → wpAny (model prog w) A' (pyIter v) Q E ⟨hp, g, d, tk, os⟩ :=
      fun q => B.iter prog w _ _ ⟨hp, g, d, tk, os⟩ _ h1 q
    wp_walk using q1
    refine wpAny_stack_any fun st => wpAny_pure ?_
    split
    · rename_i c _ _ _ _ _
      cases (c == Value.type "enumerate")
      · wp_walk using q1
        exact ⟨_, rfl, h⟩
      · wp_walk using q1
        exact ⟨_, rfl, h⟩
    · wp_walk using q1
      exact ⟨_, rfl, h⟩
section
variable {prog : Program} {w : World} {A : Around} {E : Value → Shared → Prop} {s : Shared}
theorem call_enumerate_any {v : Value} {o : Obj} {H : Heap → Prop} {Q : Value → Shared → Prop} (B : Begins v o H) (h1 : H s.heap)
    (h : ∀ h', IsEnum h' (s.heap.objs.size + 1) s.heap.objs.size 0 .none → h'.get? s.heap.objs.size = some o → h'.objs.size = s.heap.objs.size + 2 →
      (∀ b o, s.heap.get? b = some o → h'.get? b = some o) → Q (.ref (s.heap.objs.size + 1)) { s with heap := h' }) :
    wpAny (model prog w) A (call (.type "enumerate") [v]) Q E s := by
  refine callType_new F.called_enumerate (by decide) (F.typeCall_enumerate_1 _) (F.newCall_enumerate_1 _) (fun obj => F.args_object_init_2 obj _) F.entry_enumerate_new
    (meets_enumerate_newT B) ⟨h1, ?_⟩
  have hz : (s.heap.push o).objs.size = s.heap.objs.size + 1 := Heap.size_push ..
  show _ ∧ _
  rw [hz]
  have he : IsEnum ((s.heap.push o).push { cls := .type "enumerate", data := .fields #[.none, .bool false, .ref s.heap.objs.size, rawInt 0, .none, .none] }) (s.heap.objs.size + 1) s.heap.objs.size 0 .none := by
    have := Heap.get?_push_size (s.heap.push o) (o := { cls := .type "enumerate", data := .fields #[.none, .bool false, .ref s.heap.objs.size, rawInt 0, .none, .none] }) rfl
    rw [hz] at this; exact this
  refine ⟨⟨_, he, rfl⟩, h _ he (Heap.get?_push_of_some _ (Heap.get?_push_size _ B.free)) (by rw [Heap.size_push, hz]) fun b o x => Heap.get?_push_of_some _ (Heap.get?_push_of_some _ x)⟩
end
/-- the tuple at a, each item in a new pair -/
def IteT (K : PySem.W.Frag) (a : Addr) : It :=
  ⟨fun i H => ∃ (xs : List V) (x : V), SqT K H a xs ∧ xs[i]? = some x, fun i H v H' => ∃ T x, v = .ref T ∧ H T = none ∧ H' = upd H T (.tup [.int (i : Nat), x]) ∧ ∀ xs, SqT K H a xs → xs[i]? = some x, fun i H => ∃ xs : List V, SqT K H a xs ∧ xs.length = i⟩
theorem turn_enumT {P : Program} {w : World} {K : PySem.W.Frag} {elts : List Expr} {kk : Nat} {tpos : Pos} (a e it : Addr) (hea : a ≠ e) (hia : a ≠ it) :
    Turn P w K (.Tuple elts kk tpos) (IteT K a) [e, it] e (fun i h => (∃ old, IsEnum h e it ((i : Nat) : Int) old) ∧ h.IsTupleIter it a i ∧ e ≠ it) where
  mem := by simp
  obj := fun i h st b hb => by
    obtain ⟨⟨old, he⟩, ⟨o, ho, hc, hd⟩, _⟩ := st
    have e' : b = e ∨ b = it := by simpa using hb
    rcases e' with z | z
    · rw [z]; exact ⟨_, he, fun v q => nomatch q⟩
    · rw [z]; exact ⟨o, ho, fun v q => by rw [hd] at q; cases q⟩
  keep := fun i h h' st k => let ⟨⟨old, he⟩, hi, hne⟩ := st; ⟨⟨old, k e (by simp) _ he⟩, hi.at fun o q => k it (by simp) o q, hne⟩
  item := by
    intro X hP hw hK hc i pins s σ H E I hf st hg
    subst hP hw hK
    obtain ⟨⟨old, he⟩, hit, hne⟩ := st
    obtain ⟨xs, x, hq, hx⟩ := hg
    obtain ⟨its, rv, p, hz⟩ := I.tuple hq
    obtain ⟨u, hu, ru⟩ := rv.get hx
    have hel : e < s.heap.objs.size := Heap.lt_size he
    have hil : it < s.heap.objs.size := by obtain ⟨_, q, _⟩ := hit; exact Heap.lt_size q
    have D := Draws.tuple (prog := X.prog) (w := X.w) (A := X.A.in1) (by exact I.ok.hd hc) it a hia its.toArray
    have hlt : i < its.toArray.size := by
      have := (List.getElem?_eq_some_iff.mp hu).1
      simpa using this
    refine wpAny_pyNext_enum_itemD D he ⟨hit, p⟩ hlt hne (by simp [hne, Ne.symm hea]) fun v h' tk hv ho hst hT hsz hk => ?_
    have ev : v = u := by
      have hv' : its[i]? = some v := by simpa using hv
      rw [hu] at hv'
      exact (Option.some.inj hv').symm
    subst ev
    refine ⟨_, rfl, wpAny_letOwnedTupleGo_enum (s := { s with heap := h', toks := tk + 1 }) ho fun h'' he' sb => ?_⟩
    have hT2 : h''.get? s.heap.objs.size = some { cls := .type "tuple", data := .seq #[.int i tk, v] } := (sb.2 _ (Nat.ne_of_gt hel)).trans hT
    have new : ObjOk X.prog X.w (upd H s.heap.objs.size (.tup [.int (i : Nat), x])) h'' s.heap.objs.size (.tup [.int (i : Nat), x]) :=
      ⟨by show 2 ≤ sizeLine; decide, [.int i tk, v], .cons ⟨_, rfl⟩ (.cons ru .nil), ⟨_, hT2, rfl, _, rfl⟩⟩
    have I1 : Inv X pins σ (upd H s.heap.objs.size (.tup [.int (i : Nat), x])) { s with heap := h'', toks := tk + 1 } :=
      I.turnedNew (ch := [e, it]) (fun b ob hb q => (sb.2 b (fun z => hb (by simp [z]))).trans (hk b ob (fun z => hb (by simp [z])) (fun z => hb (by simp [z])) q)) hf (Nat.le_refl _) new
    refine ⟨.ref s.heap.objs.size, _, I1, rfl, ⟨_, x, rfl, I.hok.fresh (Nat.le_refl _), rfl, fun ys hy => by rw [I.tuple_inj hy hq]; exact hx⟩, ⟨⟨v, ?_⟩, hst.1.at fun o q => (sb.2 it (Ne.symm hne)).trans q, hne⟩, fun b hb => ?_⟩
    · have e1 : ((i + 1 : Nat) : Int) = (i : Int) + 1 := by omega
      rw [e1]; exact he'
    · have hb' : b < s.heap.objs.size := by
        have e' : b = e ∨ b = it := by simpa using hb
        rcases e' with z | z
        · rw [z]; exact hel
        · rw [z]; exact hil
      rw [upd_ne (Nat.ne_of_lt hb')]
      exact (hf b hb).1
  done := by
    intro X hP hw hK hc i pins s σ H E I hf st hg
    subst hP hw hK
    obtain ⟨⟨old, he⟩, hit, hne⟩ := st
    obtain ⟨xs, hq, hx⟩ := hg
    obtain ⟨its, rv, p, hz⟩ := I.tuple hq
    obtain ⟨f0, f1, f2, f3, f4, f5⟩ := hf it (by simp)
    have hl := rv.length
    have D := Draws.tuple (prog := X.prog) (w := X.w) (A := X.A.in1) (by exact I.ok.hd hc) it a hia its.toArray
    have e0 : i = its.toArray.size := by simp; omega
    exact wpAny_pyNext_enum_endD D he ⟨e0 ▸ hit, p⟩ fun h' eb => ⟨rfl, I.turned (t' := s.toks) (fun b o hb q => eb b o hb q) f0 f1 f3 f4 f5⟩
  self := fun A i s Q E st h => let ⟨⟨_, he⟩, _⟩ := st; wpAny_pyIter_enum he h
def iEnumT (K : PySem.W.Frag) (ta : TA) : TI := fun σ H R => ta σ H fun vs H1 => ∃ a xs, vs = [.ref a] ∧ SqT K H1 a xs ∧ R (IteT K a) H1
theorem pi_enumT {X : Cx} {e : Expr} {ta : TA} {p pos tpos : Pos} {elts : List Expr} {kk : Nat} (hg : Gl X "enumerate") (hm : X.mg "enumerate" = none) (ha : PA X [e] ta) (hs : starEach [e] X.env = [(false, eval e X.env)] := by rfl) :
    PI X (.Tuple elts kk tpos) (.Call (.Name "enumerate" p) [e] [] pos) (iEnumT X.K ta) := by
  refine ⟨fun pins s σ H R I h => ?_⟩
  refine Call_ (ld_blt I hg hm boot_enumerate (PyProof.Rows.callWith_type1 (thn (ha.run pos pins s σ H _ I h) fun us s1 ⟨vs, H1, I1, r1, q1⟩ => ?_) hs rfl))
  obtain ⟨a, xs, ex, hq, q⟩ := q1
  subst ex
  cases r1 with
  | cons r rr =>
    cases rr
    cases r
    obtain ⟨its, rv, p', hz⟩ := I1.tuple hq
    refine call_enumerate_any (begins_tuple a its.toArray) p' fun h' he hit hsz hk => wpAny_pyIter_enum he ?_
    have I2 : Inv X pins σ H1 { s1 with heap := h' } := I1.kept (t' := s1.toks) hk
    have hal : a < s1.heap.objs.size := p'.lt
    refine ⟨s1.heap.objs.size + 1, [s1.heap.objs.size + 1, s1.heap.objs.size], _, _, H1, rfl, I2, turn_enumT a (s1.heap.objs.size + 1) s1.heap.objs.size (Nat.ne_of_lt (Nat.lt_succ_of_lt hal)) (Nat.ne_of_lt hal), ⟨⟨.none, he⟩, ⟨_, hit, rfl, rfl⟩, Nat.succ_ne_self _⟩, fun b hb => ?_, q⟩
    have e' : b = s1.heap.objs.size + 1 ∨ b = s1.heap.objs.size := by simpa using hb
    have hle : s1.heap.objs.size ≤ b := by
      rcases e' with z | z
      · rw [z]; exact Nat.le_add_right _ _
      · rw [z]; exact Nat.le_refl _
    exact I1.fpOk hle (I1.hok.fresh hle)
section
variable {X : Cx} {Z : Zc} {a b : Expr} {fa fb : ES} {pos tpos p : Pos} {elts : List Expr} {kk : Nat}
theorem enumF_get : ∀ (xs : List MV) (k i : Nat) (x : MV), (enumF k xs)[i]? = some x → ∃ y, xs[i]? = some y ∧ x = .tup [.int ((k + i : Nat) : Int), y]
  | [], _, _, _, e => by simp [enumF] at e
  | y :: xs, k, 0, x, e => by simp [enumF] at e; subst e; exact ⟨y, by simp, by simp⟩
  | y :: xs, k, i + 1, x, e => by
    simp only [enumF, List.getElem?_cons_succ] at e
    obtain ⟨z, h1, h2⟩ := enumF_get xs (k + 1) i x e
    refine ⟨z, by simpa using h1, ?_⟩
    rw [h2]
    congr 3
    omega
theorem enumF_len : ∀ (xs : List MV) (k : Nat), (enumF k xs).length = xs.length
  | [], _ => rfl
  | _ :: xs, k => by simp [enumF, enumF_len xs]
/-- a new pair, told whole -/
theorem pair_new {r : List Addr} {m : MH} {H : Hp} {T : Addr} {x y : MV} {u w : V} (R : Rep Z r m H) (hT : H T = none) (hx : RV Z.K r H x u) (hy : RV Z.K r H y w) :
    Go Z r H r m (L2.upd H T (.tup [u, w])) ∧ RV Z.K r (L2.upd H T (.tup [u, w])) (.tup [x, y]) (.ref T) := by
  have t : TX Z.K H (L2.upd H T (.tup [u, w])) := TX.upd (.inl hT)
  exact ⟨⟨Pre.refl _, t, R.garb hT⟩, .tup (SqT.of upd_same) (.cons (hx.mono (Pre.refl _) t) (.cons (hy.mono (Pre.refl _) t) .nil))⟩
theorem siEnum (hK : X.K = Z.K) (hg : Gl X "enumerate") (hm : X.mg "enumerate" = none) (ha : PE X a (SE Z fa)) (hs : starEach [a] X.env = [(false, eval a X.env)] := by rfl) :
    PI X (.Tuple elts kk tpos) (.Call (.Name "enumerate" p) [a] [] pos) (SIt Z (iEnum fa)) := by
  refine PI.imp (PI.or (pi_enum hg hm (pa_cons ha pa_nil (hs.trans rfl)) hs) (pi_enumT hg hm (pa_cons ha pa_nil (hs.trans rfl)) hs)) fun σ H R ⟨r, m, s, h, q⟩ => ?_
  rw [hK]
  unfold iEnum at q
  have q1 := Fin.bind (x := iSeq fa s m) q
  unfold iSeq at q1
  have q2 := Fin.bind (x := fa s m) q1
  cases e : fa s m with
  | ok v m1 =>
    rw [e] at q2
    have key : ∀ (P : VK), (∀ r' H' u, Go Z r H r' m1 H' → RV Z.K r' H' v u → P u H') → SE Z fa σ H P := fun P k => ⟨r, m, s, h, by rw [e]; exact fun r' H' g u hu => k r' H' u g hu⟩
    cases v with
    | tup xs =>
      refine .inr (key _ fun r' H' u g hu => ?_)
      obtain ⟨m', e0, g1, q3⟩ := q2 r' H' g
      cases e0
      obtain ⟨m2, e1, g2, q4⟩ := q3.ok g1.R
      cases e1
      cases hu with
      | tup t b =>
        rename_i pa us
        refine ⟨_, _, rfl, t, q4.ok g1.R _ ?_⟩
        refine ⟨fun H => SqT Z.K H pa us, fun i H u H' => ∃ T x, u = .ref T ∧ H T = none ∧ H' = upd H T (.tup [.int (i : Nat), x]) ∧ us[i]? = some x, ?_, fun r2 m2 H2 g2 _ => ⟨g2.t.t _ _ t, ?_⟩⟩
        · rw [enumF_len, b.length]
          exact ⟨fun i H hi q => ⟨us, us[i], q, by simp [hi]⟩, fun H q => ⟨us, q, rfl⟩, fun i H x H' hi q ⟨T, y, h1, h2, h3, h4⟩ => ⟨T, y, h1, h2, h3, h4 us q⟩⟩
        · rintro i u H'' x hx ⟨T, y, rfl, hT, rfl, hy⟩
          obtain ⟨z, h1, h2⟩ := enumF_get _ _ _ _ hx
          subst h2
          obtain ⟨w, w1, w2⟩ := (b.mono g2.p g2.t).get h1
          rw [hy] at w1
          cases w1
          rw [Nat.zero_add]
          exact pair_new g2.R hT (.int _) w2
    | fro xs =>
      refine .inl (key _ fun r' H' u g hu => ?_)
      obtain ⟨m', e0, g1, q3⟩ := q2 r' H' g
      cases e0
      obtain ⟨m2, e1, g2, q4⟩ := q3.ok g1.R
      cases e1
      cases hu with
      | fro t b =>
        rename_i pa us
        refine ⟨_, _, rfl, t.sq, q4.ok g1.R _ ?_⟩
        refine ⟨fun H => SqL Z.K H pa us, YPair (fun i => some (.int (i : Nat))) (fun i => us[i]?), by rw [enumF_len, b.length]; exact walk_enum, fun r2 m2 H2 g2 _ => ⟨(g2.t.f _ _ t).sq, ?_⟩⟩
        rintro i u H'' x hx ⟨T, y1, y2, rfl, hT, rfl, hy1, hy2⟩
        cases hy1
        obtain ⟨z, h1, h2⟩ := enumF_get _ _ _ _ hx
        subst h2
        obtain ⟨w, w1, w2⟩ := (b.mono g2.p g2.t).get h1
        have hy2 : us[i]? = some y2 := hy2
        rw [hy2] at w1
        cases w1
        rw [Nat.zero_add]
        exact pair_new g2.R hT (.int _) w2
    | ref p =>
      refine .inl (key _ fun r' H' u g hu => ?_)
      obtain ⟨m', e0, g1, q3⟩ := q2 r' H' g
      cases e0
      cases hu with
      | ref t =>
        rename_i pa
        cases h1 : lstOf m1 p with
        | some xs =>
          simp only [bind_ok, h1] at q3
          obtain ⟨m2, e1, g2, q4⟩ := q3.ok g1.R
          cases e1
          obtain ⟨us, z, b⟩ := lst_of g1.R t h1
          refine ⟨_, _, rfl, SqL.of z, q4.ok g1.R _ ?_⟩
          refine ⟨fun H => ∃ us, SqL Z.K H pa us ∧ us.length = xs.length, fun i H u H' => ∃ T x, u = .ref T ∧ H T = none ∧ H' = upd H T (.tup [.int (i : Nat), x]) ∧ ∀ us, SqL Z.K H pa us → us[i]? = some x, ?_, fun r2 m2 H2 g2 hgd => ?_⟩
          · rw [enumF_len]
            exact ⟨fun i H hi ⟨us, q, l⟩ => ⟨us, us[i], q, by simp [l, hi]⟩, fun H ⟨us, q, l⟩ => ⟨us, q, Nat.le_of_eq l⟩, fun i H x H' hi q y => y⟩
          · obtain ⟨us, z, b⟩ := g2.R.obj p pa _ (g2.p.get t) (guard_ok hgd)
            refine ⟨⟨us, SqL.of z, b.length.symm⟩, ?_⟩
            rintro i u H'' x hx ⟨T, y, rfl, hT, rfl, hy⟩
            obtain ⟨z0, h1, h2⟩ := enumF_get _ _ _ _ hx
            subst h2
            obtain ⟨w, w1, w2⟩ := b.get h1
            have := hy us (SqL.of z)
            rw [w1] at this
            cases this
            rw [Nat.zero_add]
            exact pair_new g2.R hT (.int _) w2
        | none =>
          simp only [bind_ok, h1] at q3
          exact q3.elim
    | _ =>
      refine .inl (key _ fun r' H' u g hu => ?_)
      obtain ⟨m', e0, g1, q3⟩ := q2 r' H' g
      cases e0
      exact q3.elim
  | exc c v m => rw [e] at q2; exact q2.elim
  | bad => rw [e] at q2; exact q2.elim
end
end MP
set_option maxRecDepth 100000
/-! MFor: for, list comprehensions, calls, a def's body. -/
namespace MP
open PySem PySem.Spec L2
section
variable {X : Cx} {Z : Zc} {a b c tg it : Expr} {fa fb fo : ES} {pos : Pos} {es : List Expr} {la : LS} {st : List Stmt} {f : SS} {fi : IS} {g : GS} {vs : List Nat} {ta : TSm}
theorem wipe_wipe (σ : L2.St) (vs : List Nat) : L2.wipe (L2.wipe σ vs) vs = L2.wipe σ vs := by
  refine List.ext_getElem? fun i => ?_
  rw [wipe_get, wipe_get, wipe_length]
  split <;> rfl
theorem get_drop {α : Type} {l : List α} {i : Nat} {x : α} {r : List α} (h : l.drop i = x :: r) : l[i]? = some x ∧ l.drop (i + 1) = r ∧ i < l.length := by
  have h1 : i < l.length := by
    by_cases z : i < l.length
    · exact z
    · rw [List.drop_eq_nil_of_le (by omega)] at h
      cases h
  rw [List.drop_eq_getElem_cons h1] at h
  injection h with h2 h3
  exact ⟨by simp [h1, h2], h3, h1⟩
theorem ssFor (hp : PassesOwn (model X.prog X.w) X.A X.env X.xe) (hc : X.calm = true) (hi : PI X tg it (SIt Z fi)) (hg : PG X tg (SG Z vs g)) (hb : PSs X st (SSt Z f)) (hs : ∀ x, foldedSetIterable it X.env x = pure x := by intro _; rfl) :
    PS X (.For tg it st [] pos) (SSt Z (sFor fi g f)) := by
  refine PS.imp (ps_for hp hc hi hg hb hs) fun D σ H ⟨r, m, s, h, q⟩ => ?_
  refine ⟨r, m, s, h, ?_⟩
  have q2 := Fin.bind (x := fi s m) q
  revert q2
  cases fi s m with
  | exc c v m => exact fun z => z
  | bad => exact fun z => z
  | ok p m1 =>
    intro q2 r1 H1 g1 J hJ
    obtain ⟨m', e, g1', q3⟩ := q2 r1 H1 g1
    cases e
    obtain ⟨G, Y, w, hw⟩ := hJ
    refine for_it w (fun i σ H => ∃ r m s, S0 Z r m H s σ ∧ Go Z r1 H1 r m H ∧ Fin Z r H (FlowOk Z D) (forL p.2 g f (p.1.drop i) s m)) ⟨r1, m1, s, h.go g1, Go.refl g1.R, q3⟩ ?_ ?_ ?_
    · rintro i σ' H' hi ⟨r', m', s', h', g', q'⟩
      cases hd : p.1.drop i with
      | nil =>
        rw [hd] at q'
        unfold forL at q'
        split at q'
        · rename_i hok
          exact (hw r' m' H' g' hok).1
        · exact q'.elim
      | cons x rest =>
        rw [hd] at q'
        unfold forL at q'
        split at q'
        · rename_i hok
          exact (hw r' m' H' g' hok).1
        · exact q'.elim
    · rintro i u σ' H' H'' hi ⟨r', m', s', h', g', q'⟩ hy
      cases hd : p.1.drop i with
      | nil =>
        have := List.drop_eq_nil_iff.mp hd
        omega
      | cons x rest =>
        obtain ⟨e1, e2, _⟩ := get_drop hd
        rw [hd] at q'
        unfold forL at q'
        split at q'
        · rename_i hok
          obtain ⟨g2, rv⟩ := (hw r' m' H' g' hok).2 i u H'' x e1 hy
          refine ⟨r', m', s', x, h'.go g2, rv, ?_⟩
          have q4 := Fin.bind (x := g x s' m') (Fin.mono q' g2 fun _ _ _ z => z)
          revert q4
          cases g x s' m' with
          | exc c v m => exact fun z => z
          | bad => exact fun z => z
          | ok s2 m2 =>
            intro q4 r3 H3 g3 σ3 hs3 _
            obtain ⟨m3, e3, g3', q5⟩ := q4 r3 H3 g3
            cases e3
            refine ⟨r3, m2, s2, ⟨g3.R, hs3⟩, ?_⟩
            have q6 := Fin.bind (x := f s2 m2) q5
            revert q6
            cases f s2 m2 with
            | exc c v m => exact fun z => z
            | bad => exact fun z => z
            | ok fl m4 =>
              intro q6 r5 H5 g5
              obtain ⟨m5, e5, g5', q7⟩ := q6 r5 H5 g5
              cases e5
              have gg : Go Z r1 H1 r5 m4 H5 := ((g'.trans g2).trans g3).trans g5
              cases fl with
              | nx s6 => exact fun σ6 hs6 => ⟨r5, m4, s6, ⟨g5.R, hs6⟩, gg, by rw [e2]; exact q7⟩
              | ct s6 => exact fun σ6 hs6 => ⟨r5, m4, s6, ⟨g5.R, hs6⟩, gg, by rw [e2]; exact q7⟩
              | bk s6 => exact fun σ6 hs6 => q7.ok g5.R σ6 hs6
              | rt v => exact q7.ok g5.R
        · exact q'.elim
    · rintro σ' H' ⟨r', m', s', h', g', q'⟩
      rw [List.drop_length] at q'
      unfold forL at q'
      split at q'
      · exact q'.ok h'.R σ' h'.S
      · exact q'.elim
/-! ### list comprehensions -/
theorem sts : PTs X [] (STt Z tYes) := ⟨fun pins s σ H Q I ⟨r, m, s', h, q⟩ => pts_nil.run pins s σ H Q I (q.ok h.R)⟩
theorem stsOne (h : PT X c (STt Z ta)) : PTs X [c] (STt Z ta) := pts_one h
/-- the turns of a list comprehension, told once for both its forms -/
theorem lc_read {σ : L2.St} {H : Hp} {Q : VK} (h : SE Z (eLc fi g ta fa vs) σ H Q) : tLc (SIt Z fi) (SG Z vs g) (STt Z ta) (SE Z fa) vs σ H Q := by
  obtain ⟨r, m, s, h, q⟩ := h
  refine ⟨r, m, s, h, ?_⟩
  have q2 := Fin.bind (x := fi s m) q
  revert q2
  cases fi s m with
  | exc c v m => exact fun z => z
  | bad => exact fun z => z
  | ok p m1 =>
    intro q2 r1 H1 g1 J hJ D hD
    obtain ⟨m', e, g1', q3⟩ := q2 r1 H1 g1
    cases e
    obtain ⟨G, Y, w, hw⟩ := hJ
    have R0 : Rep Z (r1 ++ [D]) (m1 ++ [.lst []]) (upd H1 D (.lst [])) := g1.R.new hD ⟨[], upd_same, .nil⟩
    have gD : Go Z r1 H1 (r1 ++ [D]) (m1 ++ [.lst []]) (upd H1 D (.lst [])) := ⟨Pre.one _ _, TX.upd (.inl hD), R0⟩
    have hs0 := h.go g1
    have lenD : r1.length = m1.length := g1.R.len
    refine lc_it w (fun i H => ∃ r m, Rep Z r m H ∧ Go Z r1 H1 r m H ∧ Pre (r1 ++ [D]) r ∧ RS Z.K r H (MP.wipe s vs) (L2.wipe σ vs) ∧
      Fin Z r H (QV Z Q) ((lcL p.2 g ta fa m1.length (MP.wipe s vs) (p.1.drop i) m).bind fun _ m2 => .ok (.ref m1.length) m2)) ?_ ?_ ?_ ?_
    · exact ⟨r1 ++ [D], m1 ++ [.lst []], R0, gD, Pre.refl _, RS.wipe ((hs0.go gD).S) vs, Fin.mono q3 gD fun _ _ _ z => z⟩
    · rintro i H' hi ⟨r', m', R', g', pd, S', q'⟩
      cases hd : p.1.drop i with
      | nil =>
        rw [hd] at q'
        unfold lcL at q'
        split at q'
        · rename_i hok
          exact (hw r' m' H' g' hok).1
        · exact q'.elim
      | cons x rest =>
        rw [hd] at q'
        unfold lcL at q'
        split at q'
        · rename_i hok
          exact (hw r' m' H' g' hok).1
        · exact q'.elim
    · rintro i u H' H'' hi ⟨r', m', R', g', pd, S', q'⟩ hy
      cases hd : p.1.drop i with
      | nil =>
        have := List.drop_eq_nil_iff.mp hd
        omega
      | cons x rest =>
        obtain ⟨e1, e2, _⟩ := get_drop hd
        rw [hd] at q'
        unfold lcL at q'
        split at q'
        · rename_i hok
          obtain ⟨g2, rv⟩ := (hw r' m' H' g' hok).2 i u H'' x e1 hy
          have S2 := S'.mono g2.p g2.t
          refine ⟨r', m', MP.wipe s vs, x, ⟨g2.R, S2⟩, rv, ?_⟩
          have q3' := Fin.bind (Fin.mono q' g2 fun _ _ _ z => z)
          have q4 := Fin.bind (x := g x (MP.wipe s vs) m') q3'
          revert q4
          cases g x (MP.wipe s vs) m' with
          | exc c v m => exact fun z => z
          | bad => exact fun z => z
          | ok s2 m2 =>
            intro q4 r3 H3 g3 σ3 hs3 hset
            obtain ⟨m3, e3, g3', q5⟩ := q4 r3 H3 g3
            cases e3
            refine ⟨hset.wipe.trans (wipe_wipe σ vs), r3, m2, s2, ⟨g3.R, hs3⟩, ?_⟩
            have q6 := Fin.bind (x := ta s2 m2) q5
            revert q6
            cases ta s2 m2 with
            | exc c v m => exact fun z => z
            | bad => exact fun z => z
            | ok t m4 =>
              intro q6 r5 H5 g5
              obtain ⟨m5, e5, g5', q7⟩ := q6 r5 H5 g5
              cases e5
              have gg : Go Z r1 H1 r5 m4 H5 := ((g'.trans g2).trans g3).trans g5
              have pg : Pre (r1 ++ [D]) r5 := ((pd.trans g2.p).trans g3.p).trans g5.p
              have SS : RS Z.K r5 H5 (MP.wipe s vs) (L2.wipe σ vs) := (S2.mono g3.p g3.t).mono g5.p g5.t
              cases t with
              | false =>
                refine iteF ?_
                rw [if_neg Bool.false_ne_true] at q7
                refine ⟨r5, m4, g5.R, gg, pg, SS, ?_⟩
                rw [e2]
                have q8 := q7.mono (Q' := fun r' H' _ => QV Z Q r' H' (.ref m1.length)) (Go.refl g5.R) (fun r' H' _ ⟨mm, _, gm, k⟩ => k.ok gm.R)
                revert q8
                cases lcL p.2 g ta fa m1.length (MP.wipe s vs) rest m4 with
                | exc c v m => exact fun z => z
                | bad => exact fun z => z
                | ok _ m9 => exact fun z r' H' g' => z r' H' g'
              | true =>
                refine iteT ?_
                rw [if_pos rfl] at q7
                refine ⟨r5, m4, s2, (show S0 Z r5 m4 H5 s2 σ3 from ⟨g5.R, hs3.mono g5.p g5.t⟩), ?_⟩
                have q8 := Fin.bind (x := fa s2 m4) q7
                revert q8
                cases fa s2 m4 with
                | exc c v m => exact fun z => z
                | bad => exact fun z => z
                | ok y m6 =>
                  intro q8 r7 H7 g7 uy hy7
                  obtain ⟨m7, e7, g7', q9⟩ := q8 r7 H7 g7
                  cases e7
                  have eD : r7[m1.length]? = some D := (pg.trans g7.p).get (by rw [← lenD]; simp)
                  split at q9
                  · rename_i acc hacc
                    split at q9
                    · rename_i hl
                      obtain ⟨us, z1, z2⟩ := g7.R.obj _ _ _ eD hacc
                      have hb : big < sizeLine := by decide
                      refine ⟨us, z1, by rw [← z2.length]; omega, ?_⟩
                      have fr : Free H7 D := .inr (by rw [z1]; trivial)
                      have t : TX Z.K H7 (L2.upd H7 D (.lst (us ++ [uy]))) := TX.upd fr
                      have R8 := g7.R.set (o := .lst (us ++ [uy])) eD (x := .lst (acc ++ [y])) ⟨_, upd_same, (z2.append (.cons hy7 .nil)).mono (Pre.refl _) t⟩
                      have g8 : Go Z r7 H7 r7 (m6.set m1.length (.lst (acc ++ [y]))) (L2.upd H7 D (.lst (us ++ [uy]))) := ⟨Pre.refl _, t, R8⟩
                      refine ⟨r7, _, R8, (gg.trans g7).trans g8, pg.trans g7.p, (SS.mono g7.p g7.t).mono g8.p g8.t, ?_⟩
                      rw [e2]
                      have q10 := q9.mono (Q' := fun r' H' _ => QV Z Q r' H' (.ref m1.length)) g8 (fun r' H' _ ⟨mm, _, gm, k⟩ => k.ok gm.R)
                      revert q10
                      cases lcL p.2 g ta fa m1.length (MP.wipe s vs) rest (m6.set m1.length (.lst (acc ++ [y]))) with
                      | exc c v m => exact fun z => z
                      | bad => exact fun z => z
                      | ok _ m9 => exact fun z r' H' g' => z r' H' g'
                    · exact q9.elim
                  · exact q9.elim
        · exact q'.elim
    · rintro H' ⟨r', m', R', g', pd, S', q'⟩
      rw [List.drop_length] at q'
      unfold lcL at q'
      split at q'
      · have eD : r'[m1.length]? = some D := pd.get (by rw [← lenD]; simp)
        exact q'.ok R' _ (.ref eD)
      · exact q'.elim
variable {scope : Scope} {own : List (Str × Nat)} {ifs : List Expr}
theorem sLc (hc : X.calm = true) (hN : X.N.Nodup) (hi : PI X tg it (SIt Z fi)) (ok : BlkOk X.N X.env.scope scope own) (hvs : own.map (·.2) = vs)
    (hg : ∀ (s : Shared) (H : Hp) (C : Addr) (cl : List (Str × Addr)) (fp : List Addr), PG (X.blk s H scope (compEnvC scope cl C X.env) fp) tg (SG Z vs g))
    (ht : ∀ (s : Shared) (H : Hp) (C : Addr) (cl : List (Str × Addr)) (fp : List Addr), PTs (X.blk s H scope (compEnvC scope cl C X.env) fp) ifs (STt Z ta))
    (he : ∀ (s : Shared) (H : Hp) (C : Addr) (cl : List (Str × Addr)) (fp : List Addr), PE (X.blk s H scope (compEnvC scope cl C X.env) fp) a (SE Z fa)) (hs : ∀ x, foldedSetIterable it X.env x = pure x := by intro _; rfl) :
    PE X (.ListComp a [⟨tg, it, ifs, 0⟩] scope pos) (SE Z (eLc fi g ta fa vs)) := by
  subst hvs
  exact PE.imp (pe_lc hc hN hi ok hg ht he hs) fun _ _ _ h => lc_read h
theorem ssSetLc {i : Nat} {y : Str} {py spos : Pos} (hc : X.calm = true) (hN : X.N.Nodup) (hy : X.N[i]? = some y) (hyl : X.env.scope.names.lookup y = some .local)
    (hsw : swapsWith (.ListComp a [⟨tg, it, ifs, 0⟩] scope pos) (some (.Name y py)) spos.line X.env = pure true) (hi : PI X tg it (SIt Z fi)) (ok : BlkOk X.N X.env.scope scope own) (hvs : own.map (·.2) = vs)
    (hg : ∀ (s : Shared) (H : Hp) (C : Addr) (cl : List (Str × Addr)) (fp : List Addr), PG (X.blk s H scope (compEnvC scope cl C X.env) fp) tg (SG Z vs g))
    (ht : ∀ (s : Shared) (H : Hp) (C : Addr) (cl : List (Str × Addr)) (fp : List Addr), PTs (X.blk s H scope (compEnvC scope cl C X.env) fp) ifs (STt Z ta))
    (he : ∀ (s : Shared) (H : Hp) (C : Addr) (cl : List (Str × Addr)) (fp : List Addr), PE (X.blk s H scope (compEnvC scope cl C X.env) fp) a (SE Z fa)) (hs : ∀ x, foldedSetIterable it X.env x = pure x := by intro _; rfl) :
    PS X (.Assign [.Name y py] (.ListComp a [⟨tg, it, ifs, 0⟩] scope pos) spos) (SSt Z (sAsg (eLc fi g ta fa vs) (gN i))) := by
  subst hvs
  refine PS.imp (ps_setLc hc hN hy hyl hsw hi ok hg ht he hs) fun D σ H ⟨r, m, s, h, q⟩ => ?_
  refine lc_read (Q := fun x H1 => gName i x σ H1 D.nx) ?_
  refine SE.then (f := eLc fi g ta fa (own.map (·.2))) h q fun r1 m1 H1 x u h1 g1 hu q1 => ?_
  exact q1.ok h1.R _ (h1.S.set hu i)
/-! ### calls -/
/-- a promise: what the def gives by numbers -/
def SpC (Z : Zc) (n : Nat) (F : List MV → MH → Res MV) : Sp := fun us H Q _ => us.length = n ∧ ∃ r m xs, Rep Z r m H ∧ RVs Z.K r H xs us ∧ Fin Z r H (QV Z Q) (F xs m)
/-- the def f of the calls C is to be called at A as x, with n parameters, the last ones given by ds -/
structure FnE (P : Program) (w : World) (mg : Str → Option Value) (base : Heap) (A : Around) (Z : Zc) (C : Calls) (f n : Nat) (ds : List MV) (x : Str) : Prop where
  ex : ∃ k a fd ps us dvs, FnOk P w Z.K mg base CX0 k a fd ps (SpC Z n (C f)) ∧ Room k A ∧ mg x = some (.ref a) ∧ PySem.W.keepIn Z.K (.ref a) = true ∧ Binds Z.K fd ps us ∧ Vals dvs us ∧ ∀ r H, RVs Z.K r H ds dvs
theorem sCall {C : Calls} {n k : Nat} {ds : List MV} {x : Str} {p : Pos} (hK : X.K = Z.K) (F : FnE X.prog X.w X.mg X.base X.A Z C k n ds x) (hg : Gl X x) (ha : PA X (a :: es) (SA Z la)) (hdb : (x == ("__debug__" : Str)) = false := by decide)
    (he : starEach (a :: es) X.env = (false, eval a X.env) :: starEach es X.env := by rfl) (hpl : (backTo pos (starEach es X.env)).any (·.1) = false := by rfl) : PE X (.Call (.Name x p) (a :: es) [] pos) (SE Z (eCall C k n ds la)) := by
  obtain ⟨j, ad, fd, ps, us, dvs, F, hr, hm, hk, hb, hd, hv⟩ := F.ex
  rw [← hK] at F hk hb
  refine PE.imp (pe_call F hr hg hm hk hb hd pass0 ha hdb he hpl) fun σ H Q ⟨r, m, s, h, q⟩ => ?_
  refine SA.then h q fun r1 m1 H1 xs us h1 g1 hus q1 => ?_
  dsimp only at q1
  split at q1
  · rename_i hl
    have hall := hus.append (hv r1 H1)
    exact ⟨by rw [← hall.length]; exact hl, r1, m1, xs ++ ds, h1.R, hall, q1⟩
  · exact q1.elim
theorem sCall0 {C : Calls} {n k : Nat} {ds : List MV} {x : Str} {p : Pos} (hK : X.K = Z.K) (F : FnE X.prog X.w X.mg X.base X.A Z C k n ds x) (hg : Gl X x) (hdb : (x == ("__debug__" : Str)) = false := by decide) :
    PE X (.Call (.Name x p) [] [] pos) (SE Z (eCall C k n ds lNil)) := by
  obtain ⟨j, ad, fd, ps, us, dvs, F, hr, hm, hk, hb, hd, hv⟩ := F.ex
  rw [← hK] at F hk hb
  refine PE.imp (pe_call0 F hr hg hm hk hb hd pass0 hdb) fun σ H Q ⟨r, m, s, h, q⟩ => ?_
  unfold eCall eL lNil at q
  rw [bind_ok] at q
  dsimp only at q
  split at q
  · rename_i hl
    have hall : RVs Z.K r H ([] ++ ds) ([] ++ dvs) := hv r H
    exact ⟨by rw [← hall.length]; exact hl, r, m, [] ++ ds, h.R, hall, q⟩
  · exact q.elim
/-- the method f of the class c -/
structure MtE (P : Program) (w : World) (mg : Str → Option Value) (base : Heap) (A : Around) (Z : Zc) (C : Calls) (c f n : Nat) (ds : List MV) (x : Str) : Prop where
  ex : ∃ k a fd ps us dvs, FnOk P w Z.K mg base CX0 k a fd ps (SpC Z n (C f)) ∧ Room k A ∧ Meth Z.K (Z.CA c) x a ∧ Binds Z.K fd ps us ∧ Vals dvs us ∧ ∀ r H, RVs Z.K r H ds dvs
  cls : Cls Z.K (Z.CA c)
  no : ∀ k, k < Z.nA → Z.AN k ≠ x
theorem FR.noName {r : List Addr} {H : Hp} {x : Str} (no : ∀ k, k < Z.nA → Z.AN k ≠ x) : ∀ {fs : List (Nat × MV)} {gs : List (Str × V)}, FR Z r H fs gs → gs.lookup x = none
  | _, _, .nil => rfl
  | _, _, @FR.cons _ _ _ j y u fs gs hj h s => by
    rw [List.lookup_cons]
    have : (x == Z.AN j) = false := by
      simp only [beq_eq_false_iff_ne]
      exact fun e => no j hj e.symm
    rw [this]
    exact FR.noName no s
theorem meth_read {C : Calls} {c n k : Nat} {ds : List MV} {x : Str} {ad : Addr} {dvs : List V} (no : ∀ k, k < Z.nA → Z.AN k ≠ x) (hv : ∀ r H, RVs Z.K r H ds dvs) {σ : L2.St} {H : Hp} {Q : VK} (h : SE Z (eMeth C c k n ds fo la) σ H Q) :
    tMeth (Z.CA c) x (SpC Z n (C k)) dvs E0 (SE Z fo) (SA Z la) σ H Q := by
  obtain ⟨r, m, s, h, q⟩ := h
  refine SE.then h q fun r1 m1 H1 y u h1 g1 hu q1 => ?_
  cases y with
  | ref i =>
    cases hu with
    | ref e =>
      dsimp only at q1
      split at q1
      · rename_i c' fs h2
        split at q1
        · rename_i hc
          subst hc
          obtain ⟨dx, us, e1, s1⟩ := ins_of h1.R e h2
          refine ⟨_, dx, us, rfl, e1, s1.noName no, ?_⟩
          refine SA.then h1 q1 fun r2 m2 H2 xs us h2 g2 hus q2 => ?_
          split at q2
          · rename_i hl
            have hall : RVs Z.K r2 H2 (.ref i :: (xs ++ ds)) (.ref _ :: (us ++ dvs)) := .cons (.ref (g2.p.get e)) (hus.append (hv r2 H2))
            exact ⟨by rw [← hall.length]; exact hl, r2, m2, _, h2.R, hall, q2⟩
          · exact q2.elim
        · exact q1.elim
      · exact q1.elim
  | _ => exact q1.elim
theorem sMeth {C : Calls} {c n k : Nat} {ds : List MV} {x : Str} {apos : Pos} {pl : Sem Bool} (hK : X.K = Z.K) (F : MtE X.prog X.w X.mg X.base X.A Z C c k n ds x) (ho : PE X b (SE Z fo)) (ha : PA X (a :: es) (SA Z la))
    (hst : starEach (a :: es) X.env = (false, eval a X.env) :: starEach es X.env := by rfl) (hpl : (backTo pos (starEach es X.env)).any (·.1) = false := by rfl)
    (ht : eval (.Call (.Attribute b x apos) (a :: es) [] pos) X.env = (do
      let ov ← eval b X.env
      standAt apos.atName
      let (f, first) ← holding [ov] (getMethod ov x pl)
      callWith pos f first (backTo pos (starEach (a :: es) X.env)) (backToKw pos (keywordEach [] X.env))) := by rfl) :
    PE X (.Call (.Attribute b x apos) (a :: es) [] pos) (SE Z (eMeth C c k n ds fo la)) := by
  obtain ⟨⟨j, ad, fd, ps, us, dvs, F, hr, hm, hb, hd, hv⟩, hcl, no⟩ := F
  rw [← hK] at F hb hm hcl
  exact PE.imp (pe_meth ho hcl hm F hr hb hd pass0 ha hst hpl ht) fun _ _ _ h => meth_read (ad := ad) no hv h
theorem sMeth0 {C : Calls} {c n k : Nat} {ds : List MV} {x : Str} {apos : Pos} {pl : Sem Bool} (hK : X.K = Z.K) (F : MtE X.prog X.w X.mg X.base X.A Z C c k n ds x) (ho : PE X b (SE Z fo))
    (ht : eval (.Call (.Attribute b x apos) [] [] pos) X.env = (do
      let ov ← eval b X.env
      standAt apos.atName
      let (f, first) ← holding [ov] (getMethod ov x pl)
      callWith pos f first (backTo pos (starEach [] X.env)) (backToKw pos (keywordEach [] X.env))) := by rfl) :
    PE X (.Call (.Attribute b x apos) [] [] pos) (SE Z (eMeth C c k n ds fo lNil)) := by
  obtain ⟨⟨j, ad, fd, ps, us, dvs, F, hr, hm, hb, hd, hv⟩, hcl, no⟩ := F
  rw [← hK] at F hb hm hcl
  refine PE.imp (pe_meth0 ho hcl hm F hr hb hd pass0 ht) fun σ H Q h => ?_
  obtain ⟨r, m, s, h, q⟩ := h
  refine SE.then h q fun r1 m1 H1 y u h1 g1 hu q1 => ?_
  cases y with
  | ref i =>
    cases hu with
    | ref e =>
      dsimp only at q1
      split at q1
      · rename_i c' fs h2
        split at q1
        · rename_i hc
          subst hc
          obtain ⟨dx, us, e1, s1⟩ := ins_of h1.R e h2
          refine ⟨_, dx, us, rfl, e1, s1.noName no, ?_⟩
          unfold lNil at q1
          rw [bind_ok] at q1
          split at q1
          · rename_i hl
            have hall : RVs Z.K r1 H1 (.ref i :: ([] ++ ds)) (.ref _ :: ([] ++ dvs)) := .cons (.ref e) (hv r1 H1)
            exact ⟨by rw [← hall.length]; exact hl, r1, m1, _, h1.R, hall, q1⟩
          · exact q1.elim
        · exact q1.elim
      · exact q1.elim
  | _ => exact q1.elim
/-- the class c is made by its __init__, the def f -/
structure MkE (P : Program) (w : World) (mg : Str → Option Value) (base : Heap) (A : Around) (Z : Zc) (C : Calls) (c f n : Nat) (ds : List MV) (x : Str) : Prop where
  ex : ∃ k a fd ps us dvs, FnOk P w Z.K mg base CX0 k a fd ps (SpC Z n (C f)) ∧ Room (k + 1) A ∧ Mk Z.K (Z.CA c) a ∧ mg x = some (.ref (Z.CA c)) ∧ Binds Z.K fd ps us ∧ Vals dvs us ∧ ∀ r H, RVs Z.K r H ds dvs
theorem make_read {C : Calls} {c n k : Nat} {ds : List MV} {dvs : List V} (hv : ∀ r H, RVs Z.K r H ds dvs) {σ : L2.St} {H : Hp} {Q : VK} (h : SE Z (eMake C c k n ds la) σ H Q) : tMake (Z.CA c) (SpC Z n (C k)) dvs E0 (SA Z la) σ H Q := by
  obtain ⟨r, m, s, h, q⟩ := h
  refine SA.then h q fun r1 m1 H1 xs us h1 g1 hus q1 => ?_
  intro x dx nx ndx nex
  split at q1
  · rename_i hl
    have R0 : Rep Z r1 m1 (upd H1 dx (.own x)) := h1.R.garb ndx
    have t0 : TX Z.K H1 (upd H1 dx (.own x)) := TX.upd (.inl ndx)
    have nx2 : upd H1 dx (.own x) x = none := by rw [upd_ne (Ne.symm nex)]; exact nx
    have R1 : Rep Z (r1 ++ [x]) (m1 ++ [.ins c []]) (upd (upd H1 dx (.own x)) x (.ins (Z.CA c) dx [])) := R0.new nx2 ⟨dx, [], upd_same, .nil⟩
    have gg : Go Z r1 H1 (r1 ++ [x]) (m1 ++ [.ins c []]) (upd (upd H1 dx (.own x)) x (.ins (Z.CA c) dx [])) := ⟨Pre.one _ _, t0.trans (TX.upd (.inl nx2)), R1⟩
    have ex : (r1 ++ [x])[m1.length]? = some x := by rw [← h1.R.len]; simp
    have hall : RVs Z.K (r1 ++ [x]) (upd (upd H1 dx (.own x)) x (.ins (Z.CA c) dx [])) (.ref m1.length :: (xs ++ ds)) (.ref x :: (us ++ dvs)) := .cons (.ref ex) ((hus.mono gg.p gg.t).append (hv _ _))
    refine ⟨by have := hall.length; simp only [List.length_cons] at this ⊢; rw [← this]; simpa using hl, _, _, _, R1, hall, ?_⟩
    have q2 := Fin.bind (Fin.mono q1 gg fun _ _ _ z => z)
    revert q2
    cases C k (.ref m1.length :: (xs ++ ds)) (m1 ++ [.ins c []]) with
    | exc c v m => exact fun z => z
    | bad => exact fun z => z
    | ok v m2 =>
      intro q2 r3 H3 g3 u hu
      obtain ⟨m', e, g3', q4⟩ := q2 r3 H3 g3
      cases e
      cases v with
      | non => cases hu; exact ⟨rfl, q4.ok g3.R _ (.ref (g3.p.get ex))⟩
      | _ => exact q4.elim
  · exact q1.elim
theorem sMake {C : Calls} {c n k : Nat} {ds : List MV} {x : Str} {p : Pos} (hK : X.K = Z.K) (F : MkE X.prog X.w X.mg X.base X.A Z C c k n ds x) (hg : Gl X x) (ha : PA X (a :: es) (SA Z la)) (hdb : (x == ("__debug__" : Str)) = false := by decide)
    (he : starEach (a :: es) X.env = (false, eval a X.env) :: starEach es X.env := by rfl) (hpl : (backTo pos (starEach es X.env)).any (·.1) = false := by rfl) : PE X (.Call (.Name x p) (a :: es) [] pos) (SE Z (eMake C c k n ds la)) := by
  obtain ⟨j, ad, fd, ps, us, dvs, F, hr, hk, hm, hb, hd, hv⟩ := F.ex
  rw [← hK] at F hk hb
  exact PE.imp (pe_make hk F hr hg hm hb hd pass0 ha hdb he hpl) fun _ _ _ h => make_read hv h
/-! ### a def's body -/
theorem rs_start {K : PySem.W.Frag} {r : List Addr} {H : Hp} {xs : List MV} {us : List V} (h : RVs K r H xs us) (N : List Str) : RS K r H (xs.map some ++ List.replicate (N.length - xs.length) none) (L2.start N us) := by
  unfold L2.start
  refine ⟨by simp [h.length], fun i x e => ?_⟩
  by_cases hi : i < xs.length
  · rw [List.getElem?_append_left (by simpa using hi), List.getElem?_map] at e
    cases ex : xs[i]? with
    | none => rw [ex] at e; cases e
    | some y =>
      rw [ex] at e
      cases e
      obtain ⟨u, e1, e2⟩ := h.get ex
      refine ⟨u, ?_, e2⟩
      rw [List.getElem?_append_left (by rw [List.length_map, ← h.length]; exact hi), List.getElem?_map, e1]
      rfl
  · rw [List.getElem?_append_right (by simpa using hi), List.getElem?_replicate] at e
    split at e <;> cases e
/-- the rule for a def: its body read by b -/
theorem fn_ok {P : Program} {w : World} {mg : Str → Option Value} {base : Heap} {x qual : Str} {st : Stmt} {ad : Addr} {fd : FuncData} {N ps : List Str} {k : Nat} {b : SS} (F : L2.Fun Z.K x qual st ad fd) (S : FnScope N ps (defScope st))
    (hbody : ∀ (cdv : Value) (A : Around) (outer : List PySem.Env) (s : Shared) (H : Hp) (E : XK), Room k (A.deeper (PyProof.Rows.envOfC qual (defScope st) s.heap.objs.size ad cdv)) →
      PSs (cxOf CX0 P w Z.K mg base N qual (defScope st) ad cdv A outer s H E).nox (defBody st) (SSt Z b)) : FnOk P w Z.K mg base CX0 (k + 1) ad fd ps (SpC Z ps.length (callB N.length b)) := by
  refine F.ok S (fun us H Q E h => h.1) fun cdv A outer s H us Q E hr h => ⟨SSt Z b, hbody cdv A outer s H E hr, ?_⟩
  obtain ⟨hl, r, m, xs, R, hxs, q⟩ := h
  refine ⟨r, m, _, ⟨R, rs_start hxs N⟩, ?_⟩
  unfold callB at q
  have q2 := Fin.bind q
  revert q2
  cases b (xs.map some ++ List.replicate (N.length - xs.length) none) m with
  | exc c v m => exact fun z => z
  | bad => exact fun z => z
  | ok f m1 =>
    intro q2 r' H' g
    obtain ⟨m', e, g', q3⟩ := q2 r' H' g
    cases e
    cases f with
    | nx s => exact fun σ hs => q3.ok g.R _ .non
    | rt v => exact fun u hu => q3.ok g.R u hu
    | bk s => exact q3.elim
    | ct s => exact q3.elim
end
end MP
set_option maxRecDepth 100000
/-! MWords: short words for the derivations that the printer writes. -/
namespace MP
open PySem PySem.Spec L2
section
variable {X : Cx} {Z : Zc} {pos : Pos}
theorem pw (i : Nat) {x : Str} (hN : X.N[i]? = some x := by rfl) (hv : Vis X.env.scope x := by first | exact Or.inl rfl | exact Or.inr (Or.inl rfl) | exact Or.inr (Or.inr rfl)) (hd : (x == ("__debug__" : Str)) = false := by decide) (hcd : (x == ("__classdict__" : Str)) = false := by decide) : PE X (.Name x pos) (SE Z (eV i)) :=
  sV i hN hv hd hcd
theorem gw (i : Nat) {x : Str} {vs : List Nat} (hN : X.N.Nodup) (hv : i ∈ vs := by decide) (hi : X.N[i]? = some x := by rfl) (hx : Loc X.env.scope x := by first | exact Or.inl rfl | exact Or.inr rfl) (hf : X.fn x = true ∨ X.env.scope.names.lookup x = some .local := by first | exact .inl rfl | exact .inr rfl) : PG X (.Name x pos) (SG Z vs (gN i)) :=
  sgN hN hi hx hv hf
theorem setw (i : Nat) {x : Str} {a : Expr} {fa : ES} {pos' : Pos} (hN : X.N.Nodup) (he : PE X a (SE Z fa)) (hi : X.N[i]? = some x := by rfl) (hx : Loc X.env.scope x := by first | exact Or.inl rfl | exact Or.inr rfl) (hs : swapsWith a (some (.Name x pos')) pos.line X.env = pure false := by rfl)
    (hf : X.fn x = true ∨ X.env.scope.names.lookup x = some .local := by first | exact .inl rfl | exact .inr rfl) : PS X (.Assign [.Name x pos'] a pos) (SSt Z (sAsg fa (gN i))) := ssSet hN hi hx he hs hf
end
theorem fn_bad {P : Program} {w : World} {mg : Str → Option Value} {base : Heap} {K : PySem.W.Frag} {Z : Zc} {ps : List Str} {k : Nat} {ad : Addr} {fd : FuncData} {F : List MV → MH → Res MV} (h : ∀ xs m, F xs m = .bad) : FnOk P w K mg base CX0 k ad fd ps (SpC Z ps.length F) :=
  ⟨fun _ _ _ _ q => q.1, fun A outer s H args us vs Q E _ _ _ _ ⟨_, r, m, xs, _, _, q⟩ => by rw [h] at q; exact q.elim⟩
/-- what the head leaves of a def of the top -/
structure FnF (K : PySem.W.Frag) (mg : Str → Option Value) (a : Addr) (fd : FuncData) (x qual : Str) (st : Stmt) (ps : List Str) : Prop where
  F : L2.Fun K x qual st a fd
  m : mg x = some (.ref a)
  b : Binds K fd ps []
structure MtF (K : PySem.W.Frag) (C a : Addr) (fd : FuncData) (x qual : Str) (st : Stmt) (ps : List Str) : Prop where
  F : L2.Fun K x qual st a fd
  m : Meth K C x a
  b : Binds K fd ps []
/-- a class -/
structure ClF (K : PySem.W.Frag) (mg : Str → Option Value) (C : Addr) (x : Str) : Prop where
  c : Cls K C
  m : mg x = some (.ref C)
section
variable {P : Program} {w : World} {mg : Str → Option Value} {base : Heap} {A : Around} {Z : Zc} {C : Calls} {f n k : Nat} {x qual : Str} {a : Addr} {fd : FuncData} {st : Stmt} {ps : List Str}
theorem fne (F : FnF Z.K mg a fd x qual st ps) (O : FnOk P w Z.K mg base CX0 k a fd ps (SpC Z n (C f))) (hr : Room k A) : FnE P w mg base A Z C f n [] x :=
  ⟨k, a, fd, ps, [], [], O, hr, F.m, F.F.kp, F.b, .nil, fun _ _ => .nil⟩
theorem mte {c : Nat} (F : MtF Z.K (Z.CA c) a fd x qual st ps) (T : Cls Z.K (Z.CA c)) (no : ∀ k, k < Z.nA → Z.AN k ≠ x) (O : FnOk P w Z.K mg base CX0 k a fd ps (SpC Z n (C f))) (hr : Room k A) : MtE P w mg base A Z C c f n [] x :=
  ⟨⟨k, a, fd, ps, [], [], O, hr, F.m, F.b, .nil, fun _ _ => .nil⟩, T, no⟩
theorem mke {c : Nat} {ad : Addr} (M : Mk Z.K (Z.CA c) ad) (m : mg x = some (.ref (Z.CA c))) (b : Binds Z.K fd ps []) (O : FnOk P w Z.K mg base CX0 k ad fd ps (SpC Z n (C f))) (hr : Room (k + 1) A) : MkE P w mg base A Z C c f n [] x :=
  ⟨k, ad, fd, ps, [], [], O, hr, M, m, b, .nil, fun _ _ => .nil⟩
end
/-! ### the law's end -/
def spLaw (K : PySem.W.Frag) : Sp := fun vs H Q _ => ∃ (a : Addr) (ns : List Int), vs = [.ref a] ∧ FzL K H a (ns.map V.int) ∧ ns.length ≤ 63 ∧ ∀ H', Q (.bl true) H'
theorem fz_of {K : PySem.W.Frag} {H : Hp} {a : Addr} {us : List V} (o : Only H) (h : SqL K H a us) : FzL K H a us := by
  rcases h with (h | ⟨ob, h⟩) | h
  · rcases o a with z | ⟨ob, xs, z⟩
    · rw [z] at h; cases h
    · rw [z] at h; cases h
  · exact .inl ⟨ob, h⟩
  · exact .inr h
theorem rvs_ints {K : PySem.W.Frag} {r : List Addr} {H : Hp} : ∀ ns : List Int, RVs K r H (ns.map MV.int) (ns.map V.int)
  | [] => .nil
  | n :: r => .cons (.int n) (rvs_ints r)
theorem rep_nil {Z : Zc} {H : Hp} : Rep Z [] [] H := ⟨rfl, List.nodup_nil, fun i a o e _ => by simp at e⟩
theorem law_imp {Z : Zc} {F : List MV → MH → Res MV} (h : ∀ ns : List Int, ns.length ≤ 63 → ∃ m', F [.fro (ns.map .int)] [] = .ok (.bl true) m') : ∀ vs H Q E, spLaw Z.K vs H Q E → SpC Z 1 F vs H Q E := by
  rintro vs H Q E ⟨a, ns, rfl, hf, hl, k⟩
  obtain ⟨m', e⟩ := h ns hl
  refine ⟨rfl, [], [], [.fro (ns.map .int)], rep_nil, .cons (.fro hf (rvs_ints ns)) .nil, ?_⟩
  rw [e]
  intro r' H' g u hu
  cases hu
  exact k H'
end MP
/-! MSem: plain laws of the combinators: heaps that grow, loops by invariants, data compared. -/
namespace MP
open PySem
/-! ### heaps that grow -/
def Ext (m m' : MH) : Prop := ∃ t, m' = m ++ t
theorem Ext.refl (m : MH) : Ext m m := ⟨[], by simp⟩
theorem Ext.trans {a b c : MH} (h : Ext a b) (k : Ext b c) : Ext a c := by
  obtain ⟨t, rfl⟩ := h
  obtain ⟨u, rfl⟩ := k
  exact ⟨t ++ u, by simp⟩
theorem Ext.get {m m' : MH} (h : Ext m m') {i : Nat} {o : MO} (e : m[i]? = some o) : m'[i]? = some o := by
  obtain ⟨t, rfl⟩ := h
  rw [List.getElem?_append_left (List.getElem?_eq_some_iff.mp e).1]
  exact e
theorem Ext.len {m m' : MH} (h : Ext m m') : m.length ≤ m'.length := by
  obtain ⟨t, rfl⟩ := h
  simp
theorem Ext.one (m : MH) (o : MO) : Ext m (m ++ [o]) := ⟨[o], rfl⟩
theorem Ext.set {m m' : MH} (h : Ext m m') {i : Nat} {o : MO} (k : m.length ≤ i) : Ext m (m'.set i o) := by
  obtain ⟨t, rfl⟩ := h
  refine ⟨t.set (i - m.length) o, ?_⟩
  rw [List.set_append_right _ _ k]
theorem get_new (m : MH) (o : MO) : (m ++ [o])[m.length]? = some o := by simp
theorem get_set {m : MH} {i : Nat} {o p : MO} (h : m[i]? = some p) : (m.set i o)[i]? = some o := List.getElem?_set_self (List.getElem?_eq_some_iff.mp h).1
theorem get_set_ne {m : MH} {i j : Nat} {o : MO} (h : i ≠ j) : (m.set i o)[j]? = m[j]? := List.getElem?_set_ne h
theorem get_lt {m : MH} {i : Nat} {o : MO} (h : m[i]? = some o) : i < m.length := (List.getElem?_eq_some_iff.mp h).1
/-- all but the places S are kept -/
def Keep (S : Nat → Prop) (m m' : MH) : Prop := m.length ≤ m'.length ∧ ∀ i o, ¬ S i → m[i]? = some o → m'[i]? = some o
theorem Keep.refl (S : Nat → Prop) (m : MH) : Keep S m m := ⟨Nat.le_refl _, fun _ _ _ e => e⟩
theorem Keep.trans {S : Nat → Prop} {a b c : MH} (h : Keep S a b) (k : Keep S b c) : Keep S a c := ⟨Nat.le_trans h.1 k.1, fun i o n e => k.2 i o n (h.2 i o n e)⟩
theorem Ext.keep {m m' : MH} (h : Ext m m') (S : Nat → Prop) : Keep S m m' := ⟨h.len, fun _ _ _ e => h.get e⟩
theorem Keep.mono {S S' : Nat → Prop} {m m' : MH} (h : Keep S m m') (k : ∀ i, S i → S' i) : Keep S' m m' := ⟨h.1, fun i o n e => h.2 i o (fun z => n (k i z)) e⟩
theorem Keep.set {S : Nat → Prop} {m m' : MH} (h : Keep S m m') {i : Nat} {o : MO} (k : S i ∨ m.length ≤ i) : Keep S m (m'.set i o) := by
  refine ⟨by rw [List.length_set]; exact h.1, fun j p n e => ?_⟩
  have hj := get_lt e
  rw [get_set_ne (fun z => by subst z; rcases k with k | k; exact n k; omega)]
  exact h.2 j p n e
theorem Keep.of_set (m : MH) (i : Nat) (o : MO) : Keep (· = i) m (m.set i o) := (Keep.refl _ m).set (.inl rfl)
theorem Keep.new {S : Nat → Prop} {m m' : MH} (h : Keep S m m') (o : MO) : Keep S m (m' ++ [o]) := h.trans ((Ext.one m' o).keep S)
/-! ### loops by an invariant -/
theorem forL_inv {gd : Guard} {g : GS} {b : SS} (I : Nat → Env → MH → Prop) (xs : List MV)
    (hg : ∀ i s m, i ≤ xs.length → I i s m → gd.ok m = true)
    (hs : ∀ i x s m, xs[i]? = some x → I i s m → ∃ s1 m1, g x s m = .ok s1 m1 ∧ ∃ s2 m2, (b s1 m1 = .ok (.nx s2) m2 ∨ b s1 m1 = .ok (.ct s2) m2) ∧ I (i + 1) s2 m2) :
    ∀ (k i : Nat) (s : Env) (m : MH), xs.length - i = k → i ≤ xs.length → I i s m → ∃ s' m', forL gd g b (xs.drop i) s m = .ok (.nx s') m' ∧ I xs.length s' m'
  | 0, i, s, m, hk, hi, h => by
    have e : i = xs.length := by omega
    subst e
    rw [List.drop_length]
    exact ⟨s, m, by simp [forL, hg _ s m (Nat.le_refl _) h], h⟩
  | k + 1, i, s, m, hk, hi, h => by
    have hl : i < xs.length := by omega
    rw [List.drop_eq_getElem_cons hl]
    obtain ⟨s1, m1, e1, s2, m2, e2, h2⟩ := hs i xs[i] s m (by simp [hl]) h
    obtain ⟨s', m', e3, h3⟩ := forL_inv I xs hg hs k (i + 1) s2 m2 (by omega) (by omega) h2
    refine ⟨s', m', ?_, h3⟩
    rcases e2 with e2 | e2 <;> simp [forL, hg i s m hi h, e1, e2, bind_ok, e3]
/-- a for loop whose body goes on to its end -/
theorem sFor_inv {it : IS} {g : GS} {b : SS} {s : Env} {m m1 : MH} {xs : List MV} {gd : Guard} (I : Nat → Env → MH → Prop) (hit : it s m = .ok (xs, gd) m1) (h0 : I 0 s m1)
    (hg : ∀ i s m, i ≤ xs.length → I i s m → gd.ok m = true)
    (hs : ∀ i x s m, xs[i]? = some x → I i s m → ∃ s1 m1, g x s m = .ok s1 m1 ∧ ∃ s2 m2, (b s1 m1 = .ok (.nx s2) m2 ∨ b s1 m1 = .ok (.ct s2) m2) ∧ I (i + 1) s2 m2) :
    ∃ s' m', sFor it g b s m = .ok (.nx s') m' ∧ I xs.length s' m' := by
  obtain ⟨s', m', e, h⟩ := forL_inv I xs hg hs xs.length 0 s m1 (by omega) (Nat.zero_le _) h0
  exact ⟨s', m', by unfold sFor; rw [hit, bind_ok]; exact e, h⟩
/-- a for loop that may leave: R what a return gives -/
theorem forL_invR {gd : Guard} {g : GS} {b : SS} (I : Nat → Env → MH → Prop) (R : MV → MH → Prop) (xs : List MV)
    (hg : ∀ i s m, i ≤ xs.length → I i s m → gd.ok m = true)
    (hs : ∀ i x s m, xs[i]? = some x → I i s m → ∃ s1 m1, g x s m = .ok s1 m1 ∧ ((∃ s2 m2, (b s1 m1 = .ok (.nx s2) m2 ∨ b s1 m1 = .ok (.ct s2) m2) ∧ I (i + 1) s2 m2) ∨ ∃ v m2, b s1 m1 = .ok (.rt v) m2 ∧ R v m2)) :
    ∀ (k i : Nat) (s : Env) (m : MH), xs.length - i = k → i ≤ xs.length → I i s m → (∃ s' m', forL gd g b (xs.drop i) s m = .ok (.nx s') m' ∧ I xs.length s' m') ∨ ∃ v m', forL gd g b (xs.drop i) s m = .ok (.rt v) m' ∧ R v m'
  | 0, i, s, m, hk, hi, h => by
    have e : i = xs.length := by omega
    subst e
    rw [List.drop_length]
    exact .inl ⟨s, m, by simp [forL, hg _ s m (Nat.le_refl _) h], h⟩
  | k + 1, i, s, m, hk, hi, h => by
    have hl : i < xs.length := by omega
    rw [List.drop_eq_getElem_cons hl]
    obtain ⟨s1, m1, e1, h1⟩ := hs i xs[i] s m (by simp [hl]) h
    rcases h1 with ⟨s2, m2, e2, h2⟩ | ⟨v, m2, e2, h2⟩
    · rcases forL_invR I R xs hg hs k (i + 1) s2 m2 (by omega) (by omega) h2 with ⟨s', m', e3, h3⟩ | ⟨v, m', e3, h3⟩
      · refine .inl ⟨s', m', ?_, h3⟩
        rcases e2 with e2 | e2 <;> simp [forL, hg i s m hi h, e1, e2, bind_ok, e3]
      · refine .inr ⟨v, m', ?_, h3⟩
        rcases e2 with e2 | e2 <;> simp [forL, hg i s m hi h, e1, e2, bind_ok, e3]
    · exact .inr ⟨v, m2, by simp [forL, hg i s m hi h, e1, e2, bind_ok], h2⟩
theorem sFor_invR {it : IS} {g : GS} {b : SS} {s : Env} {m m1 : MH} {xs : List MV} {gd : Guard} (I : Nat → Env → MH → Prop) (R : MV → MH → Prop) (hit : it s m = .ok (xs, gd) m1) (h0 : I 0 s m1)
    (hg : ∀ i s m, i ≤ xs.length → I i s m → gd.ok m = true)
    (hs : ∀ i x s m, xs[i]? = some x → I i s m → ∃ s1 m1, g x s m = .ok s1 m1 ∧ ((∃ s2 m2, (b s1 m1 = .ok (.nx s2) m2 ∨ b s1 m1 = .ok (.ct s2) m2) ∧ I (i + 1) s2 m2) ∨ ∃ v m2, b s1 m1 = .ok (.rt v) m2 ∧ R v m2)) :
    (∃ s' m', sFor it g b s m = .ok (.nx s') m' ∧ I xs.length s' m') ∨ ∃ v m', sFor it g b s m = .ok (.rt v) m' ∧ R v m' := by
  rcases forL_invR I R xs hg hs xs.length 0 s m1 (by omega) (Nat.zero_le _) h0 with ⟨s', m', e, h⟩ | ⟨v, m', e, h⟩
  · exact .inl ⟨s', m', by unfold sFor; rw [hit, bind_ok]; exact e, h⟩
  · exact .inr ⟨v, m', by unfold sFor; rw [hit, bind_ok]; exact e, h⟩
theorem whileL_inv {c : TSm} {b : SS} (I : Env → MH → Prop) (μ : Env → MH → Nat) (Post : Env → MH → Prop)
    (hs : ∀ s m, I s m → ∃ t m1, c s m = .ok t m1 ∧ (t = false → Post s m1) ∧ (t = true → ∃ s2 m2, (b s m1 = .ok (.nx s2) m2 ∨ b s m1 = .ok (.ct s2) m2) ∧ I s2 m2 ∧ μ s2 m2 < μ s m)) :
    ∀ (n : Nat) (s : Env) (m : MH), I s m → μ s m < n → ∃ s' m', whileL c b n s m = .ok (.nx s') m' ∧ Post s' m'
  | 0, _, _, _, h => absurd h (Nat.not_lt_zero _)
  | n + 1, s, m, hI, hμ => by
    obtain ⟨t, m1, e1, h0, h1⟩ := hs s m hI
    cases t with
    | false => exact ⟨s, m1, by simp [whileL, e1, bind_ok], h0 rfl⟩
    | true =>
      obtain ⟨s2, m2, e2, hI2, hlt⟩ := h1 rfl
      obtain ⟨s', m', e3, h3⟩ := whileL_inv I μ Post hs n s2 m2 hI2 (by omega)
      refine ⟨s', m', ?_, h3⟩
      rcases e2 with e2 | e2 <;> simp [whileL, e1, bind_ok, e2, e3]
theorem sWhile_inv {c : TSm} {b : SS} {s : Env} {m : MH} (I : Env → MH → Prop) (μ : Env → MH → Nat) (Post : Env → MH → Prop) (hI : I s m) (hμ : μ s m < loops)
    (hs : ∀ s m, I s m → ∃ t m1, c s m = .ok t m1 ∧ (t = false → Post s m1) ∧ (t = true → ∃ s2 m2, (b s m1 = .ok (.nx s2) m2 ∨ b s m1 = .ok (.ct s2) m2) ∧ I s2 m2 ∧ μ s2 m2 < μ s m)) :
    ∃ s' m', sWhile c b s m = .ok (.nx s') m' ∧ Post s' m' := whileL_inv I μ Post hs loops s m hI hμ
/-- a list comprehension: I by the turn, the list so far and the heap (the list stands at D) -/
theorem lcL_inv {gd : Guard} {g : GS} {c : TSm} {a : ES} {D : Nat} {s : Env} (I : Nat → List MV → MH → Prop) (xs : List MV) (hz : xs.length < big)
    (hg : ∀ i acc m, i ≤ xs.length → I i acc m → gd.ok m = true) (hD : ∀ i acc m, I i acc m → m[D]? = some (.lst acc) ∧ acc.length ≤ i)
    (hs : ∀ i x acc m, xs[i]? = some x → I i acc m → ∃ s1 m1, g x s m = .ok s1 m1 ∧ ∃ t m2, c s1 m1 = .ok t m2 ∧ (t = false → I (i + 1) acc m2) ∧
      (t = true → ∃ v m3, a s1 m2 = .ok v m3 ∧ m3[D]? = some (.lst acc) ∧ I (i + 1) (acc ++ [v]) (m3.set D (.lst (acc ++ [v]))))) :
    ∀ (k i : Nat) (acc : List MV) (m : MH), xs.length - i = k → i ≤ xs.length → I i acc m → ∃ acc' m', lcL gd g c a D s (xs.drop i) m = .ok () m' ∧ I xs.length acc' m'
  | 0, i, acc, m, hk, hi, h => by
    have e : i = xs.length := by omega
    subst e
    rw [List.drop_length]
    exact ⟨acc, m, by simp [lcL, hg _ acc m (Nat.le_refl _) h], h⟩
  | k + 1, i, acc, m, hk, hi, h => by
    have hl : i < xs.length := by omega
    rw [List.drop_eq_getElem_cons hl]
    obtain ⟨s1, m1, e1, t, m2, e2, h0, h1⟩ := hs i xs[i] acc m (by simp [hl]) h
    cases t with
    | false =>
      obtain ⟨acc', m', e3, h3⟩ := lcL_inv I xs hz hg hD hs k (i + 1) acc m2 (by omega) (by omega) (h0 rfl)
      exact ⟨acc', m', by simp [lcL, hg i acc m hi h, e1, e2, bind_ok, e3], h3⟩
    | true =>
      obtain ⟨v, m3, e3, e4, h4⟩ := h1 rfl
      have hl2 : acc.length < big := by have := (hD i acc m h).2; omega
      obtain ⟨acc', m', e5, h5⟩ := lcL_inv I xs hz hg hD hs k (i + 1) _ _ (by omega) (by omega) h4
      exact ⟨acc', m', by simp [lcL, hg i acc m hi h, e1, e2, bind_ok, e3, e4, hl2, e5], h5⟩
theorem eLc_inv {it : IS} {g : GS} {c : TSm} {a : ES} {vs : List Nat} {s : Env} {m m1 : MH} {xs : List MV} {gd : Guard} (I : Nat → List MV → MH → Prop) (hit : it s m = .ok (xs, gd) m1) (hz : xs.length < big) (h0 : I 0 [] (m1 ++ [.lst []]))
    (hg : ∀ i acc m, i ≤ xs.length → I i acc m → gd.ok m = true) (hD : ∀ i acc m, I i acc m → m[m1.length]? = some (.lst acc) ∧ acc.length ≤ i)
    (hs : ∀ i x acc m, xs[i]? = some x → I i acc m → ∃ s1 m2, g x (wipe s vs) m = .ok s1 m2 ∧ ∃ t m3, c s1 m2 = .ok t m3 ∧ (t = false → I (i + 1) acc m3) ∧
      (t = true → ∃ v m4, a s1 m3 = .ok v m4 ∧ m4[m1.length]? = some (.lst acc) ∧ I (i + 1) (acc ++ [v]) (m4.set m1.length (.lst (acc ++ [v]))))) :
    ∃ acc m', eLc it g c a vs s m = .ok (.ref m1.length) m' ∧ I xs.length acc m' := by
  obtain ⟨acc, m', e, h⟩ := lcL_inv I xs hz hg hD hs xs.length 0 [] (m1 ++ [.lst []]) (by omega) (Nat.zero_le _) h0
  refine ⟨acc, m', ?_, h⟩
  unfold eLc
  rw [hit, bind_ok]
  show Res.bind (lcL gd g c a m1.length (wipe s vs) xs (m1 ++ [.lst []])) _ = _
  rw [show lcL gd g c a m1.length (wipe s vs) xs (m1 ++ [.lst []]) = .ok () m' from e, bind_ok]
/-- a list comprehension that changes nothing but its own list and makes flat values: filter and map -/
theorem eLc_pure {it : IS} {g : GS} {c : TSm} {a : ES} {vs : List Nat} {s : Env} {m m1 : MH} {xs : List MV} {gd : Guard} (p : MV → Bool) (F : MV → MV) (hit : it s m = .ok (xs, gd) m1) (hx : Ext m m1) (hz : xs.length < big)
    (hg : ∀ m2, Ext m1 m2 → gd.ok m2 = true)
    (hs : ∀ x m2, x ∈ xs → Ext m1 m2 → ∃ s1, g x (wipe s vs) m2 = .ok s1 m2 ∧ ∃ m3, c s1 m2 = .ok (p x) m3 ∧ Ext m2 m3 ∧ (p x = true → ∃ m4, a s1 m3 = .ok (F x) m4 ∧ Ext m3 m4)) :
    ∃ m', eLc it g c a vs s m = .ok (.ref m1.length) m' ∧ Ext m m' ∧ m1.length < m'.length ∧ m'[m1.length]? = some (.lst ((xs.filter p).map F)) := by
  obtain ⟨acc, m', e, hE, hA, hD⟩ := eLc_inv (it := it) (g := g) (c := c) (a := a) (vs := vs) (s := s) (m := m) (m1 := m1) (xs := xs) (gd := gd)
    (fun i acc m' => Ext m1 m' ∧ acc = ((xs.take i).filter p).map F ∧ m'[m1.length]? = some (.lst acc)) hit hz
    ⟨Ext.one _ _, by simp, by simp⟩ (fun i acc m' _ h => hg m' h.1) (fun i acc m' h => ⟨h.2.2, by
      rw [h.2.1, List.length_map]
      refine Nat.le_trans (List.length_filter_le _ _) ?_
      rw [List.length_take]
      exact Nat.min_le_left _ _⟩) (by
      rintro i x acc m2 hx ⟨hE, hA, hD⟩
      obtain ⟨s1, e1, m3, e2, x2, h4⟩ := hs x m2 (List.mem_of_getElem? hx) hE
      refine ⟨s1, m2, e1, p x, m3, e2, fun hp => ⟨hE.trans x2, ?_, x2.get hD⟩, fun hp => ?_⟩
      · rw [hA, List.take_succ, hx]
        simp [hp]
      · obtain ⟨m4, e3, x3⟩ := h4 hp
        have q := (x2.trans x3).get hD
        refine ⟨F x, m4, e3, q, (hE.trans (x2.trans x3)).set (Nat.le_refl _), ?_, get_set q⟩
        rw [hA, List.take_succ, hx]
        simp [hp])
  refine ⟨m', e, hx.trans hE, get_lt hD, ?_⟩
  rw [hD, hA, List.take_length]
/-! ### data -/
def flatD : MV → PyData
  | .non => .none
  | .bl b => .bool b
  | .int i => .int i
  | .str x => .str x
  | _ => .none
theorem toD_flat {m : MH} {n : Nat} {x : MV} (h : flat x = true) : toD m (n + 1) x = some (flatD x) := by
  cases x <;> first | rfl | (simp [flat] at h)
theorem mapM_flat {m : MH} {n : Nat} : ∀ {xs : List MV}, xs.all flat = true → xs.mapM (toD m (n + 1)) = some (xs.map flatD)
  | [], _ => rfl
  | x :: xs, h => by
    simp only [List.all_cons, Bool.and_eq_true] at h
    simp [List.mapM_cons, toD_flat h.1, mapM_flat h.2]
theorem toD_tup {m : MH} {n : Nat} {xs : List MV} (h : xs.all flat = true) : toD m (n + 2) (.tup xs) = some (.tuple (xs.map flatD)) := by
  simp [toD, mapM_flat h]
theorem toD_lst {m : MH} {n : Nat} {p : Nat} {xs : List MV} (e : m[p]? = some (.lst xs)) (h : xs.all flat = true) : toD m (n + 2) (.ref p) = some (.list (xs.map flatD)) := by
  simp [toD, lstOf, e, mapM_flat h]
end MP
namespace MP
open PySem
/-- None and ints: data that == tells apart as it stands -/
def pl : MV → Bool
  | .non => true
  | .int _ => true
  | _ => false
theorem pl_flat {x : MV} (h : pl x = true) : flat x = true := by cases x <;> first | rfl | cases h
theorem all_pl_flat {xs : List MV} (h : xs.all pl = true) : xs.all flat = true := by
  rw [List.all_eq_true] at h ⊢
  exact fun x hx => pl_flat (h x hx)
theorem eqv_pl {x y : MV} (hx : pl x = true) (hy : pl y = true) : PyData.eqv (flatD x) (flatD y) = decide (x = y) := by
  cases x <;> first | cases hx | skip
  all_goals cases y <;> first | cases hy | skip
  all_goals simp [flatD, PyData.eqv]
  rw [Bool.eq_iff_iff]
  simp
theorem eqvAll_pl : ∀ {xs ys : List MV}, xs.all pl = true → ys.all pl = true → PyData.eqvAll (xs.map flatD) (ys.map flatD) = decide (xs = ys)
  | [], [], _, _ => by simp [PyData.eqvAll]
  | [], _ :: _, _, _ => by simp [PyData.eqvAll]
  | _ :: _, [], _, _ => by simp [PyData.eqvAll]
  | x :: xs, y :: ys, h, k => by
    simp only [List.all_cons, Bool.and_eq_true] at h k
    simp only [List.map_cons, PyData.eqvAll, eqv_pl h.1 k.1, eqvAll_pl h.2 k.2]
    rw [Bool.eq_iff_iff]
    simp
theorem canLay_pl {x : MV} (h : pl x = true) : PyData.canLay0 (flatD x) = true ∧ PyData.depth (flatD x) = 0 := by
  cases x <;> first | cases h | skip
  all_goals exact ⟨by simp [flatD, PyData.canLay0], by simp [flatD, PyData.depth]⟩
theorem canLayAll_pl : ∀ {xs : List MV}, xs.all pl = true → PyData.canLayAll0 (xs.map flatD) = true ∧ PyData.depthAll (xs.map flatD) = 0
  | [], _ => by simp [PyData.canLayAll0, PyData.depthAll]
  | x :: xs, h => by
    simp only [List.all_cons, Bool.and_eq_true] at h
    obtain ⟨a, b⟩ := canLay_pl h.1
    obtain ⟨c, d⟩ := canLayAll_pl h.2
    simp [PyData.canLayAll0, PyData.depthAll, a, b, c, d]
theorem shaped_pl {x : MV} (h : pl x = true) : SeqAt.shaped (flatD x) = true := by
  obtain ⟨a, b⟩ := canLay_pl h
  simp [SeqAt.shaped, a, b]
theorem shaped_tup {xs : List MV} (h : xs.all pl = true) : SeqAt.shaped (.tuple (xs.map flatD)) = true := by
  obtain ⟨a, b⟩ := canLayAll_pl h
  simp [SeqAt.shaped, PyData.canLay0, PyData.depth, a, b]
theorem shaped_lst {xs : List MV} (h : xs.all pl = true) : SeqAt.shaped (.list (xs.map flatD)) = true := by
  obtain ⟨a, b⟩ := canLayAll_pl h
  simp [SeqAt.shaped, PyData.canLay0, PyData.depth, a, b]
section
variable {m : MH} {x y : MV} {xs ys : List MV} {p q : Nat}
theorem dEq_pl (hx : pl x = true) (hy : pl y = true) : dEq m x y = some (decide (x = y)) := by
  simp [dEq, toD_flat (n := 19) (pl_flat hx), toD_flat (n := 19) (pl_flat hy), shaped_pl hx, shaped_pl hy, eqv_pl hx hy]
theorem dEq_tup (hx : xs.all pl = true) (hy : ys.all pl = true) : dEq m (.tup xs) (.tup ys) = some (decide (xs = ys)) := by
  unfold dEq
  rw [toD_tup (n := 18) (all_pl_flat hx), toD_tup (n := 18) (all_pl_flat hy)]
  simp [shaped_tup hx, shaped_tup hy, PyData.eqv, eqvAll_pl hx hy]
theorem dEq_lst (ep : m[p]? = some (.lst xs)) (eq : m[q]? = some (.lst ys)) (hx : xs.all pl = true) (hy : ys.all pl = true) : dEq m (.ref p) (.ref q) = some (decide (xs = ys)) := by
  unfold dEq
  rw [toD_lst (n := 18) ep (all_pl_flat hx), toD_lst (n := 18) eq (all_pl_flat hy)]
  simp [shaped_lst hx, shaped_lst hy, PyData.eqv, eqvAll_pl hx hy]
theorem eq_pl (hx : pl x = true) (hy : pl y = true) : eq m x y = .ok (.bl (decide (x = y))) m := by simp [eq, dEq_pl hx hy]
theorem ne_pl (hx : pl x = true) (hy : pl y = true) : ne m x y = .ok (.bl (!decide (x = y))) m := by simp [ne, dEq_pl hx hy]
theorem eq_int (i j : Int) : eq m (.int i) (.int j) = .ok (.bl (decide (i = j))) m := by rw [eq_pl rfl rfl]; simp
theorem ne_int (i j : Int) : ne m (.int i) (.int j) = .ok (.bl (!decide (i = j))) m := by rw [ne_pl rfl rfl]; simp
theorem eq_tup (hx : xs.all pl = true) (hy : ys.all pl = true) : eq m (.tup xs) (.tup ys) = .ok (.bl (decide (xs = ys))) m := by simp [eq, dEq_tup hx hy]
theorem ne_tup (hx : xs.all pl = true) (hy : ys.all pl = true) : ne m (.tup xs) (.tup ys) = .ok (.bl (!decide (xs = ys))) m := by simp [ne, dEq_tup hx hy]
theorem eq_lst (ep : m[p]? = some (.lst xs)) (eq' : m[q]? = some (.lst ys)) (hx : xs.all pl = true) (hy : ys.all pl = true) : eq m (.ref p) (.ref q) = .ok (.bl (decide (xs = ys))) m := by simp [eq, dEq_lst ep eq' hx hy]
theorem ne_lst (ep : m[p]? = some (.lst xs)) (eq' : m[q]? = some (.lst ys)) (hx : xs.all pl = true) (hy : ys.all pl = true) : ne m (.ref p) (.ref q) = .ok (.bl (!decide (xs = ys))) m := by simp [ne, dEq_lst ep eq' hx hy]
/-! ### places -/
theorem atI_nat {i : Nat} {v : MV} (h : xs[i]? = some v) : L2.atI xs (i : Int) = some v := L2.atI_nat h
theorem ix_tup {i : Nat} {v : MV} (h : xs[i]? = some v) : ix m (.tup xs) (.int i) = .ok v m := by simp [ix, seqOf, L2.atI_nat h]
theorem ix_fro {i : Nat} {v : MV} (h : xs[i]? = some v) : ix m (.fro xs) (.int i) = .ok v m := by simp [ix, seqOf, L2.atI_nat h]
theorem ix_lst {i : Nat} {v : MV} (e : m[p]? = some (.lst xs)) (h : xs[i]? = some v) : ix m (.ref p) (.int i) = .ok v m := by simp [ix, seqOf, lstOf, e, L2.atI_nat h]
theorem ix_last {v : MV} (e : m[p]? = some (.lst (xs ++ [v]))) : ix m (.ref p) (.int (-1)) = .ok v m := by simp [ix, seqOf, lstOf, e, L2.atI_last]
theorem bits_of {i : Int} {n k : Nat} (h : i.natAbs < 2 ^ k) (hk : k ≤ n) : bits i n = true := decide_eq_true (Nat.lt_of_lt_of_le h (Nat.pow_le_pow_right (by decide) hk))
theorem small_of {i : Int} {k : Nat} (h : i.natAbs < 2 ^ k) (hk : k ≤ 5000) : small i = true := bits_of h hk
theorem small_n {i : Int} (h : i.natAbs < 2 ^ 200) : small i = true := bits_of h (by decide : 200 ≤ 5000)
end
end MP
namespace MP
open PySem
section
variable {a b : SS} {s s1 : Env} {m m1 : MH} {v : MV} {n : Nat} {vs : List MV} {f : Flow}
theorem sCons_nx (h : a s m = .ok (.nx s1) m1) : sCons a b s m = b s1 m1 := by simp [sCons, h]
theorem sCons_rt (h : a s m = .ok (.rt v) m1) : sCons a b s m = .ok (.rt v) m1 := by simp [sCons, h]
theorem callB_rt (h : b (vs.map some ++ List.replicate (n - vs.length) none) m = .ok (.rt v) m1) : callB n b vs m = .ok v m1 := by simp [callB, h]
theorem callB_nx (h : b (vs.map some ++ List.replicate (n - vs.length) none) m = .ok (.nx s1) m1) : callB n b vs m = .ok .non m1 := by simp [callB, h]
theorem sIf_t {c : TSm} (h : c s m = .ok true m1) : sIf c a b s m = a s m1 := by simp [sIf, h]
theorem sIf_f {c : TSm} (h : c s m = .ok false m1) : sIf c a b s m = b s m1 := by simp [sIf, h]
theorem sAsg_ok {e : ES} {i : Nat} (h : e s m = .ok v m1) : sAsg e (gN i) s m = .ok (.nx (s.set i (some v))) m1 := by simp [sAsg, h, gN]
theorem sRet_ok {e : ES} (h : e s m = .ok v m1) : sRet e s m = .ok (.rt v) m1 := by simp [sRet, h]
theorem sDrop_ok {e : ES} (h : e s m = .ok v m1) : sDrop e s m = .ok (.nx s) m1 := by simp [sDrop, h]
theorem tV_ok {e : ES} {t : Bool} (h : e s m = .ok (.bl t) m1) : tV e s m = .ok t m1 := by simp [tV, h]
theorem eq_int' (i j : Int) : eq m (.int i) (.int j) = .ok (.bl (decide (i = j))) m := MP.eq_int i j
end
@[simp] theorem isT_int : isT "int" "int" = true := by decide
@[simp] theorem isT_ib : isT "int" "bool" = false := by decide
@[simp] theorem isT_tt : isT "tuple" "tuple" = true := by decide
end MP
namespace MP
open PySem
section
variable {s : Env} {m : MH}
@[simp] theorem eV_ap {i : Nat} : eV i s m = (match s[i]? with | some (some v) => .ok v m | _ => .bad) := rfl
@[simp] theorem eC_ap {v : MV} : eC v s m = (.ok v m) := rfl
@[simp] theorem e1_ap {g : MH → MV → Res MV} {a : ES} : e1 g a s m = ((a s m).bind fun v m1 => g m1 v) := rfl
@[simp] theorem e2_ap {g : MH → MV → MV → Res MV} {a b : ES} : e2 g a b s m = ((a s m).bind fun v m1 => (b s m1).bind fun u m2 => g m2 v u) := rfl
@[simp] theorem lNil_ap  : lNil s m = (.ok [] m) := rfl
@[simp] theorem lCons_ap {a : ES} {r : LS} : lCons a r s m = ((a s m).bind fun v m1 => (r s m1).bind fun vs m2 => .ok (v :: vs) m2) := rfl
@[simp] theorem eL_ap {g : MH → List MV → Res MV} {a : LS} : eL g a s m = ((a s m).bind fun vs m1 => g m1 vs) := rfl
@[simp] theorem eTup_ap {a : LS} : eTup a s m = ((a s m).bind fun vs m1 => if vs.length ≤ big then .ok (.tup vs) m1 else .bad) := rfl
@[simp] theorem eLst_ap {a : LS} : eLst a s m = ((a s m).bind fun vs m1 => if vs.length ≤ big then new (.lst vs) m1 else .bad) := rfl
@[simp] theorem tV_ap {a : ES} : tV a s m = ((a s m).bind fun v m1 => match v with | .bl b => .ok b m1 | _ => .bad) := rfl
@[simp] theorem tNot_ap {a : TSm} : tNot a s m = ((a s m).bind fun b m1 => .ok (!b) m1) := rfl
@[simp] theorem tAnd_ap {a b : TSm} : tAnd a b s m = ((a s m).bind fun c m1 => if c = true then b s m1 else .ok false m1) := rfl
@[simp] theorem tOr_ap {a b : TSm} : tOr a b s m = ((a s m).bind fun c m1 => if c = true then .ok true m1 else b s m1) := rfl
@[simp] theorem eAnd_ap {a b : ES} : eAnd a b s m = ((a s m).bind fun v m1 => match v with | .bl c => (if c = true then b s m1 else .ok (.bl false) m1) | _ => .bad) := rfl
@[simp] theorem eOr_ap {a b : ES} : eOr a b s m = ((a s m).bind fun v m1 => match v with | .bl c => (if c = true then .ok (.bl true) m1 else b s m1) | _ => .bad) := rfl
@[simp] theorem eNot_ap {a : ES} : eNot a s m = ((a s m).bind fun v m1 => match v with | .bl c => .ok (.bl (!c)) m1 | _ => .bad) := rfl
@[simp] theorem eIf_ap {c : TSm} {a b : ES} : eIf c a b s m = ((c s m).bind fun t m1 => if t = true then a s m1 else b s m1) := rfl
@[simp] theorem eFld_ap {cs : List Nat} {k : Nat} {a : ES} : eFld cs k a s m = ((a s m).bind fun v m1 => fld cs k m1 v) := rfl
@[simp] theorem oNone_ap  : oNone s m = (.ok none m) := rfl
@[simp] theorem oSome_ap {a : ES} : oSome a s m = ((a s m).bind fun v m1 => match v with | .int i => .ok (some i) m1 | _ => .bad) := rfl
@[simp] theorem eSlice_ap {a : ES} {lo hi : OS} : eSlice a lo hi s m = ((a s m).bind fun v m1 => (lo s m1).bind fun l m2 => (hi s m2).bind fun h m3 => slc m3 v l h) := rfl
@[simp] theorem eRev_ap {a : ES} : eRev a s m = ((a s m).bind fun v m1 => match v with | .ref p => (match lstOf m1 p with | some xs => new (.lst xs.reverse) m1 | none => .bad) | _ => .bad) := rfl
@[simp] theorem eBm_ap {T : String} {g : MH → MV → List MV → Res MV} {o : ES} {a : LS} : eBm T g o a s m = ((o s m).bind fun v m1 => if tyName m1 v = some T then (a s m1).bind fun vs m2 => g m2 v vs else .bad) := rfl
@[simp] theorem eBits_ap {a : ES} : eBits a s m = ((a s m).bind fun v m1 => match v with | .int i => .ok (.int (Builtin.Int.intBits i : Nat)) m1 | _ => .bad) := rfl
@[simp] theorem eCall_ap {C : Calls} {f n : Nat} {ds : List MV} {a : LS} : eCall C f n ds a s m = ((a s m).bind fun vs m1 => if (vs ++ ds).length = n then C f (vs ++ ds) m1 else .bad) := rfl
@[simp] theorem eMeth_ap {C : Calls} {c f n : Nat} {ds : List MV} {o : ES} {a : LS} : eMeth C c f n ds o a s m = ((o s m).bind fun x m1 => match x with | .ref p => (match m1[p]? with | some (.ins c' _) => if c' = c then (a s m1).bind fun vs m2 => if (x :: (vs ++ ds)).length = n then C f (x :: (vs ++ ds)) m2 else .bad else .bad | _ => .bad) | _ => .bad) := rfl
@[simp] theorem sNil_ap  : sNil s m = (.ok (.nx s) m) := rfl
@[simp] theorem sPass_ap  : sPass s m = (.ok (.nx s) m) := rfl
@[simp] theorem sRetN_ap  : sRetN s m = (.ok (.rt .non) m) := rfl
@[simp] theorem sNever_ap  : sNever s m = (.bad) := rfl
@[simp] theorem sBreak_ap  : sBreak s m = (.ok (.bk s) m) := rfl
@[simp] theorem sCont_ap  : sCont s m = (.ok (.ct s) m) := rfl
@[simp] theorem sCons_ap {a b : SS} : sCons a b s m = ((a s m).bind fun f m1 => match f with | .nx s1 => b s1 m1 | f => .ok f m1) := rfl
@[simp] theorem sRet_ap {a : ES} : sRet a s m = ((a s m).bind fun v m1 => .ok (.rt v) m1) := rfl
@[simp] theorem sDrop_ap {a : ES} : sDrop a s m = ((a s m).bind fun _ m1 => .ok (.nx s) m1) := rfl
@[simp] theorem sIf_ap {c : TSm} {a b : SS} : sIf c a b s m = ((c s m).bind fun t m1 => if t = true then a s m1 else b s m1) := rfl
@[simp] theorem gN_ap {i : Nat} {v : MV} : gN i v s m = (.ok (s.set i (some v)) m) := rfl
@[simp] theorem gSub_ap {o i : ES} {v : MV} : gSub o i v s m = ((o s m).bind fun a m1 => (i s m1).bind fun b m2 => (setIx m2 a b v).bind fun _ m3 => .ok s m3) := rfl
@[simp] theorem sAsg_ap {a : ES} {g : GS} : sAsg a g s m = ((a s m).bind fun v m1 => (g v s m1).bind fun s1 m2 => .ok (.nx s1) m2) := rfl
@[simp] theorem sFld_ap {cs : List Nat} {o : ES} {k : Nat} {a : ES} : MP.sFld cs o k a s m = ((a s m).bind fun v m1 => (o s m1).bind fun x m2 => (putFld cs k v m2 x).bind fun _ m3 => .ok (.nx s) m3) := rfl
@[simp] theorem sPar_ap {i j : Nat} {a b : ES} : sPar i j a b s m = ((a s m).bind fun v m1 => (b s m1).bind fun u m2 => .ok (.nx ((s.set i (some v)).set j (some u))) m2) := rfl
@[simp] theorem tYes_ap  : tYes s m = (.ok true m) := rfl
@[simp] theorem iSeq_tup {a : ES} : iSeq a s m = ((a s m).bind fun v m1 => match v with | .tup xs => .ok (xs, none) m1 | .fro xs => .ok (xs, none) m1 | .ref p => (match lstOf m1 p with | some xs => .ok (xs, some (p, xs)) m1 | none => .bad) | _ => .bad) := rfl
@[simp] theorem iRange1_ap {a : ES} : iRange1 a s m = ((a s m).bind fun v m1 => match v with | .int n => (if bits n 60 = true then .ok (upto 0 n.toNat, none) m1 else .bad) | _ => .bad) := rfl
@[simp] theorem iRange2_ap {a b : ES} : iRange2 a b s m = ((a s m).bind fun v m1 => (b s m1).bind fun u m2 => match v, u with | .int l, .int n => (if bits l 60 && bits n 60 then .ok (upto l (n - l).toNat, none) m2 else .bad) | _, _ => .bad) := rfl
@[simp] theorem iEnum_ap {a : ES} : iEnum a s m = ((iSeq a s m).bind fun p m1 => .ok (enumF 0 p.1, p.2) m1) := rfl
@[simp] theorem ge_ap {i j : Int} : ge m (.int i) (.int j) = (.ok (.bl (decide (j ≤ i))) m) := rfl
@[simp] theorem gt_ap {i j : Int} : gt m (.int i) (.int j) = (.ok (.bl (decide (j < i))) m) := rfl
@[simp] theorem le_ap {i j : Int} : le m (.int i) (.int j) = (.ok (.bl (decide (i ≤ j))) m) := rfl
@[simp] theorem lt_ap {i j : Int} : lt m (.int i) (.int j) = (.ok (.bl (decide (i < j))) m) := rfl
@[simp] theorem add_ap {i j : Int} : add m (.int i) (.int j) = (.ok (.int (i + j)) m) := rfl
@[simp] theorem sub_ap {i j : Int} : sub m (.int i) (.int j) = (.ok (.int (i - j)) m) := rfl
@[simp] theorem neg_ap {i : Int} : neg m (.int i) = (.ok (.int (-i)) m) := rfl
@[simp] theorem isOp_ap {v : MV} : isOp m v .non = (.ok (.bl (decide (v = .non))) m) := rfl
@[simp] theorem isNotOp_ap {v : MV} : isNotOp m v .non = (.ok (.bl (!decide (v = .non))) m) := rfl
@[simp] theorem toInt_ap {i : Int} : toInt m [.int i] = (.ok (.int i) m) := rfl
end
theorem big_eq : big = 1000000 := rfl
theorem max2_int (m : MH) (i j : Int) : max2 m [.int i, .int j] = .ok (.int (max i j)) m := by
  show Res.ok (MV.int (if j > i then j else i)) m = _
  rw [show (if j > i then j else i) = max i j by split <;> omega]
theorem min2_int (m : MH) (i j : Int) : min2 m [.int i, .int j] = .ok (.int (min i j)) m := by
  show Res.ok (MV.int (if j < i then j else i)) m = _
  rw [show (if j < i then j else i) = min i j by split <;> omega]
theorem max2_nat (m : MH) (i j : Nat) : max2 m [.int i, .int j] = .ok (.int (max i j : Nat)) m := by
  rw [max2_int, show max (i : Int) j = (max i j : Nat) by omega]
theorem min2_nat (m : MH) (i j : Nat) : min2 m [.int i, .int j] = .ok (.int (min i j : Nat)) m := by
  rw [min2_int, show min (i : Int) j = (min i j : Nat) by omega]
end MP
namespace MP
open PySem
section
variable {m : MH} {T : String}
@[simp] theorem isi_int (i : Int) : isi T m (.int i) = .ok (.bl (isT "int" T)) m := rfl
@[simp] theorem isi_bl (b : Bool) : isi T m (.bl b) = .ok (.bl (isT "bool" T)) m := rfl
@[simp] theorem isi_non : isi T m .non = .ok (.bl (isT "NoneType" T)) m := rfl
@[simp] theorem isi_tup (xs : List MV) : isi T m (.tup xs) = .ok (.bl (isT "tuple" T)) m := rfl
@[simp] theorem isi_str (x : Str) : isi T m (.str x) = .ok (.bl (isT "str" T)) m := rfl
@[simp] theorem lk0 {β : Type} {k : Nat} {b : β} {r : List (Nat × β)} : ((k, b) :: r).lookup k = some b := by simp [List.lookup]
theorem lkS {β : Type} {k j : Nat} {b : β} {r : List (Nat × β)} (h : k ≠ j) : ((j, b) :: r).lookup k = r.lookup k := by
  have : (k == j) = false := by simp [h]
  simp [List.lookup, this]
theorem fld_ok {cs : List Nat} {k p c : Nat} {fs : List (Nat × MV)} {v : MV} (h : m[p]? = some (.ins c fs)) (hc : c ∈ cs) (hf : fs.lookup k = some v) : fld cs k m (.ref p) = .ok v m := by
  simp [fld, h, hc, hf]
theorem putFld_ok {cs : List Nat} {k p c : Nat} {fs : List (Nat × MV)} {v : MV} (h : m[p]? = some (.ins c fs)) (hc : c ∈ cs) (hl : fs.length < 900) : putFld cs k v m (.ref p) = .ok () (m.set p (.ins c (putN k v fs))) := by
  simp [putFld, h, hc, hl]
@[simp] theorem tyName_lst {p : Nat} {xs : List MV} (h : m[p]? = some (.lst xs)) : tyName m (.ref p) = some "list" := by simp [tyName, h]
@[simp] theorem append_ok {p : Nat} {xs : List MV} {v : MV} (h : m[p]? = some (.lst xs)) (hl : xs.length < big) : append m (.ref p) [v] = .ok .non (m.set p (.lst (xs ++ [v]))) := by simp [append, lstOf, h, hl]
theorem lstOf_ok {p : Nat} {xs : List MV} (h : m[p]? = some (.lst xs)) : lstOf m p = some xs := by simp [lstOf, h]
end
end MP
/-! ChMath: charts in plain Lean. A chart is the list of the posts directly above the posts 1, 2, .. -/
namespace Ch
def Chart (ps : List Nat) : Prop := ∀ (i p : Nat), ps[i]? = some p → p ≤ i
/-- the post directly above -/
def up (ps : List Nat) (k : Nat) : Nat := min (ps.getD (k - 1) 0) (k - 1)
theorem up_lt (ps : List Nat) {k : Nat} (h : k ≠ 0) : up ps k < k := by unfold up; omega
theorem up_eq {ps : List Nat} (c : Chart ps) {k : Nat} (h : k < ps.length) : ps[k]? = some (up ps (k + 1)) := by
  have e : ps[k]? = some ps[k] := by simp [h]
  rw [e]
  have := c k _ e
  unfold up
  have e2 : ps.getD k 0 = ps[k] := by simp [List.getD, h]
  simp only [Nat.add_sub_cancel, e2]
  congr 1
  omega
/-- the posts from a post up to the head -/
def anc (ps : List Nat) (k : Nat) : List Nat := if h : k = 0 then [0] else k :: anc ps (up ps k)
termination_by k
decreasing_by exact up_lt ps h
theorem anc_zero (ps : List Nat) : anc ps 0 = [0] := by rw [anc]; simp
theorem anc_pos (ps : List Nat) {k : Nat} (h : k ≠ 0) : anc ps k = k :: anc ps (up ps k) := by rw [anc]; simp [h]
theorem mem_anc_self (ps : List Nat) (k : Nat) : k ∈ anc ps k := by
  by_cases h : k = 0
  · subst h; simp [anc_zero]
  · simp [anc_pos ps h]
theorem anc_le {ps : List Nat} : ∀ {k x : Nat}, x ∈ anc ps k → x ≤ k := by
  intro k
  induction k using Nat.strongRecOn with
  | ind k ih =>
    intro x hx
    by_cases h : k = 0
    · subst h; simp [anc_zero] at hx; omega
    · rw [anc_pos ps h] at hx
      rcases List.mem_cons.mp hx with rfl | hx
      · exact Nat.le_refl _
      · have := ih _ (up_lt ps h) hx
        have := up_lt ps h
        omega
theorem zero_mem_anc (ps : List Nat) : ∀ k, 0 ∈ anc ps k := by
  intro k
  induction k using Nat.strongRecOn with
  | ind k ih =>
    by_cases h : k = 0
    · subst h; simp [anc_zero]
    · rw [anc_pos ps h]; exact List.mem_cons_of_mem _ (ih _ (up_lt ps h))
theorem anc_sorted (ps : List Nat) : ∀ k, (anc ps k).Pairwise (· > ·) := by
  intro k
  induction k using Nat.strongRecOn with
  | ind k ih =>
    by_cases h : k = 0
    · subst h; simp [anc_zero]
    · rw [anc_pos ps h]
      refine List.pairwise_cons.mpr ⟨fun x hx => ?_, ih _ (up_lt ps h)⟩
      have := anc_le hx
      have := up_lt ps h
      omega
theorem anc_trans {ps : List Nat} : ∀ {k x : Nat}, x ∈ anc ps k → ∀ y, y ∈ anc ps x → y ∈ anc ps k := by
  intro k
  induction k using Nat.strongRecOn with
  | ind k ih =>
    intro x hx y hy
    by_cases h : k = 0
    · subst h; simp [anc_zero] at hx; subst hx; exact hy
    · rw [anc_pos ps h] at hx ⊢
      rcases List.mem_cons.mp hx with rfl | hx
      · rw [anc_pos ps h] at hy; exact hy
      · exact List.mem_cons_of_mem _ (ih _ (up_lt ps h) hx y hy)
theorem anc_length (ps : List Nat) : ∀ k, (anc ps k).length ≤ k + 1 := by
  intro k
  induction k using Nat.strongRecOn with
  | ind k ih =>
    by_cases h : k = 0
    · subst h; simp [anc_zero]
    · rw [anc_pos ps h]
      have := ih _ (up_lt ps h)
      have := up_lt ps h
      simp only [List.length_cons]
      omega
/-- the path from the head down -/
def path (ps : List Nat) (k : Nat) : List Nat := (anc ps k).reverse
theorem path_zero (ps : List Nat) : path ps 0 = [0] := by simp [path, anc_zero]
theorem path_pos (ps : List Nat) {k : Nat} (h : k ≠ 0) : path ps k = path ps (up ps k) ++ [k] := by simp [path, anc_pos ps h]
theorem mem_path {ps : List Nat} {k x : Nat} : x ∈ path ps k ↔ x ∈ anc ps k := by simp [path]
/-- is k below t? -/
def isBelow (ps : List Nat) (k t : Nat) : Bool := decide (t ∈ anc ps k)
theorem isBelow_step {ps : List Nat} {k t : Nat} (h : t < k) : isBelow ps (up ps k) t = isBelow ps k t := by
  unfold isBelow
  rw [anc_pos ps (by omega : k ≠ 0)]
  have : t ≠ k := by omega
  simp [this]
theorem isBelow_end {ps : List Nat} {k t : Nat} (h : k ≤ t) : isBelow ps k t = decide (k = t) := by
  unfold isBelow
  rw [Bool.eq_iff_iff]
  simp only [decide_eq_true_eq]
  constructor
  · intro hx
    have := anc_le hx
    omega
  · rintro rfl; exact mem_anc_self ps k
/-- the last post that two paths have in common -/
def com (ps : List Nat) (a b : Nat) : Nat := if a = b then a else com ps (up ps (max a b)) (min a b)
termination_by a + b
decreasing_by
  have := up_lt ps (k := max a b) (by omega)
  omega
theorem com_same (ps : List Nat) (a : Nat) : com ps a a = a := by rw [com]; simp
theorem com_step (ps : List Nat) {a b : Nat} (h : a ≠ b) : com ps a b = com ps (up ps (max a b)) (min a b) := by rw [com]; simp [h]
theorem mem_com {ps : List Nat} {x : Nat} : ∀ {n a b : Nat}, a + b = n → (x ∈ anc ps (com ps a b) ↔ x ∈ anc ps a ∧ x ∈ anc ps b) := by
  intro n
  induction n using Nat.strongRecOn with
  | ind n ih =>
    intro a b hn
    by_cases h : a = b
    · subst h; simp [com_same]
    · rw [com_step ps h]
      have hu := up_lt ps (k := max a b) (by omega)
      rw [ih (up ps (max a b) + min a b) (by omega) rfl]
      have key : ∀ {c d : Nat}, d < c → ((x ∈ anc ps (up ps c) ∧ x ∈ anc ps d) ↔ (x ∈ anc ps c ∧ x ∈ anc ps d)) := by
        intro c d hcd
        rw [anc_pos ps (by omega : c ≠ 0)]
        constructor
        · rintro ⟨h1, h2⟩; exact ⟨List.mem_cons_of_mem _ h1, h2⟩
        · rintro ⟨h1, h2⟩
          rcases List.mem_cons.mp h1 with e | h1
          · have := anc_le h2
            omega
          · exact ⟨h1, h2⟩
      rcases Nat.lt_or_gt_of_ne h with h | h
      · rw [Nat.max_eq_right (by omega), Nat.min_eq_left (by omega), key h]
        exact and_comm
      · rw [Nat.max_eq_left (by omega), Nat.min_eq_right (by omega), key h]
theorem com_mem {ps : List Nat} {a b : Nat} : com ps a b ∈ anc ps a ∧ com ps a b ∈ anc ps b := (mem_com rfl).mp (mem_anc_self ps _)
theorem com_symm (ps : List Nat) (a b : Nat) : com ps a b = com ps b a := by
  have h1 : com ps a b ≤ com ps b a := anc_le ((mem_com (a := b) (b := a) rfl).mpr ⟨com_mem.2, com_mem.1⟩)
  have h2 : com ps b a ≤ com ps a b := anc_le ((mem_com (a := a) (b := b) rfl).mpr ⟨com_mem.2, com_mem.1⟩)
  omega
theorem com_le {ps : List Nat} {a b x : Nat} (h1 : x ∈ anc ps a) (h2 : x ∈ anc ps b) : x ≤ com ps a b := anc_le ((mem_com rfl).mpr ⟨h1, h2⟩)
theorem com_lt {ps : List Nat} {a b n : Nat} (h1 : a < n) : com ps a b < n := by
  have := anc_le (com_mem (ps := ps) (a := a) (b := b)).1
  omega
theorem up_bound {ps : List Nat} {k n : Nat} (h : k < n) : up ps k < n := by unfold up; omega
/-- an ascending list whose greatest item is c ends in c -/
theorem last_of {l : List Nat} {c : Nat} (hs : l.Pairwise (· < ·)) (hc : c ∈ l) (hm : ∀ x ∈ l, x ≤ c) : ∃ r, l = r ++ [c] := by
  induction l with
  | nil => cases hc
  | cons x l ih =>
    cases l with
    | nil => simp at hc; subst hc; exact ⟨[], rfl⟩
    | cons y l =>
      have hs' := List.pairwise_cons.mp hs
      have hcl : c ∈ y :: l := by
        rcases List.mem_cons.mp hc with rfl | h
        · have := hs'.1 y List.mem_cons_self
          have := hm y (by simp)
          omega
        · exact h
      obtain ⟨r, e⟩ := ih hs'.2 hcl fun z hz => hm z (List.mem_cons_of_mem _ hz)
      exact ⟨x :: r, by rw [e]; rfl⟩
theorem path_sorted (ps : List Nat) (k : Nat) : (path ps k).Pairwise (· < ·) := by
  unfold path
  rw [List.pairwise_reverse]
  exact anc_sorted ps k
theorem shared_last (ps : List Nat) (a b : Nat) : ∃ r, (path ps a).filter (fun x => decide (x ∈ path ps b)) = r ++ [com ps a b] := by
  refine last_of ((path_sorted ps a).filter _) ?_ ?_
  · simp [mem_path, com_mem.1, com_mem.2]
  · intro x hx
    simp only [List.mem_filter, mem_path, decide_eq_true_eq] at hx
    exact com_le hx.1 hx.2
end Ch
set_option maxRecDepth 100000
namespace LawP
open PySem MP
def f_is_whole : Nat := 0
def f_chart_fault : Nat := 1
def f_require_chart : Nat := 2
def f_require_post : Nat := 3
def f_Tree_init : Nat := 4
def f_Tree_path : Nat := 5
def f_Tree_is_below : Nat := 6
def f_Tree_common : Nat := 7
def f_path_to : Nat := 8
def f_posts_below : Nat := 9
def f_common_post : Nat := 10
def f__law_cell : Nat := 11
def f__law_hash : Nat := 12
def f__law_generator : Nat := 13
def f__law_random : Nat := 14
def f__law_random_chart : Nat := 15
def f__law_way : Nat := 16
def f__law_post_right : Nat := 17
def f__law_pair_right : Nat := 18
def f_law : Nat := 19
/-- is_whole(value 0) -/
def b_is_whole (C : Calls) : SS := (sRet (eAnd (e1 (isi "int") (eV 0)) (eAnd (eNot (e1 (isi "bool") (eV 0))) (e2 ge (eV 0) (eC (.int 0))))))
/-- chart_fault(value 0, post 1, above 2) -/
def b_chart_fault (C : Calls) : SS := (sCons (sIf (tOr (tNot (tV (e1 (isi "tuple") (eV 0)))) (tOr (tV (e2 eq (eV 0) (eTup lNil))) (tV (e2 isNotOp (e2 ix (eV 0) (eC (.int 0))) (eC .non))))) (sRet (eTup (lCons (eC (.str (PySem.Str.ofString "shape"))) lNil))) sNil)
  (sCons (sFor (iEnum (eV 0)) (gTup 2 (gsCons (gN 1) (gsCons (gN 2) gsNil))) (sIf (tAnd (tV (e2 gt (eV 1) (eC (.int 0)))) (tOr (tNot (tV (eCall C f_is_whole 1 [] (lCons (eV 2) lNil)))) (tV (e2 ge (eV 2) (eV 1))))) (sRet (eTup (lCons (eC (.str (PySem.Str.ofString "post"))) (lCons (eV 1) lNil)))) sNil))
  (sRet (eC .non))))
/-- require_chart(chart 0, reason 1) -/
def b_require_chart (C : Calls) : SS := (sCons (sAsg (eCall C f_chart_fault 1 [] (lCons (eV 0) lNil)) (gN 1))
  (sIf (tV (e2 isNotOp (eV 1) (eC .non))) sNever sNil))
/-- require_post(chart 0, post 1) -/
def b_require_post (C : Calls) : SS := (sIf (tOr (tNot (tV (eCall C f_is_whole 1 [] (lCons (eV 1) lNil)))) (tV (e2 ge (eV 1) (eL len (lCons (eV 0) lNil))))) sNever sNil)
/-- Tree.__init__(self 0, chart 1, post 2, upper 3) -/
def b_Tree_init (C : Calls) : SS := (sCons (MP.sFld [0] (eV 0) 0 (eV 1))
  (sCons (MP.sFld [0] (eV 0) 1 (eLc (iSeq (eV 1)) (gN 2) tYes (eLst lNil) [2]))
  (sFor (iEnum (eV 1)) (gTup 2 (gsCons (gN 2) (gsCons (gN 3) gsNil))) (sIf (tV (e2 isNotOp (eV 3) (eC .non))) (sDrop (eBm "list" append (e2 ix (eFld [0] 1 (eV 0)) (eV 3)) (lCons (eV 2) lNil))) sNil))))
/-- Tree.path(self 0, post 1, posts 2) -/
def b_Tree_path (C : Calls) : SS := (sCons (sAsg (eLst (lCons (eV 1) lNil)) (gN 2))
  (sCons (sWhile (tV (e2 ne (e2 ix (eV 2) (e1 neg (eC (.int 1)))) (eC (.int 0)))) (sDrop (eBm "list" append (eV 2) (lCons (e2 ix (eFld [0] 0 (eV 0)) (e2 ix (eV 2) (e1 neg (eC (.int 1))))) lNil))))
  (sRet (eRev (eV 2)))))
/-- Tree.is_below(self 0, post 1, top 2) -/
def b_Tree_is_below (C : Calls) : SS := (sCons (sWhile (tV (e2 gt (eV 1) (eV 2))) (sAsg (e2 ix (eFld [0] 0 (eV 0)) (eV 1)) (gN 1)))
  (sRet (e2 eq (eV 1) (eV 2))))
/-- Tree.common(self 0, a 1, b 2) -/
def b_Tree_common (C : Calls) : SS := (sCons (sWhile (tV (e2 ne (eV 1) (eV 2))) (sPar 1 2 (e2 ix (eFld [0] 0 (eV 0)) (eL max2 (lCons (eV 1) (lCons (eV 2) lNil)))) (eL min2 (lCons (eV 1) (lCons (eV 2) lNil)))))
  (sRet (eV 1)))
/-- path_to(chart 0, post 1) -/
def b_path_to (C : Calls) : SS := (sCons (sDrop (eCall C f_require_chart 1 [] (lCons (eV 0) lNil)))
  (sCons (sDrop (eCall C f_require_post 2 [] (lCons (eV 0) (lCons (eV 1) lNil))))
  (sRet (eMeth C 0 f_Tree_path 2 [] (eMake C 0 f_Tree_init 2 [] (lCons (eV 0) lNil)) (lCons (eV 1) lNil)))))
/-- posts_below(chart 0, post 1, tree 2, other 3) -/
def b_posts_below (C : Calls) : SS := (sCons (sDrop (eCall C f_require_chart 1 [] (lCons (eV 0) lNil)))
  (sCons (sDrop (eCall C f_require_post 2 [] (lCons (eV 0) (lCons (eV 1) lNil))))
  (sCons (sAsg (eMake C 0 f_Tree_init 2 [] (lCons (eV 0) lNil)) (gN 2))
  (sRet (eLc (iRange1 (eL len (lCons (eV 0) lNil))) (gN 3) (tV (eMeth C 0 f_Tree_is_below 3 [] (eV 2) (lCons (eV 3) (lCons (eV 1) lNil)))) (eV 3) [3])))))
/-- common_post(chart 0, a 1, b 2) -/
def b_common_post (C : Calls) : SS := (sCons (sDrop (eCall C f_require_chart 1 [] (lCons (eV 0) lNil)))
  (sCons (sDrop (eCall C f_require_post 2 [] (lCons (eV 0) (lCons (eV 1) lNil))))
  (sCons (sDrop (eCall C f_require_post 2 [] (lCons (eV 0) (lCons (eV 2) lNil))))
  (sRet (eMeth C 0 f_Tree_common 3 [] (eMake C 0 f_Tree_init 2 [] (lCons (eV 0) lNil)) (lCons (eV 1) (lCons (eV 2) lNil)))))))
/-- _law_cell(_law_script 0, _law_index 1) -/
def b__law_cell (C : Calls) : SS := (sCons (sIf (tV (e2 lt (eV 1) (eL len (lCons (eV 0) lNil)))) (sRet (e2 ix (eV 0) (eV 1))) sNil)
  (sRet (eC (.int 0))))
/-- _law_hash(_law_seed 0, _law_index 1, _law_mixed 2) -/
def b__law_hash (C : Calls) : SS := (sCons (sAsg (e2 md (eL toInt (lCons (e2 add (e2 add (e2 add (e2 mul (eV 0) (eC (.int 1103515245))) (e2 mul (e2 mul (eC (.int 7919)) (eV 1)) (eV 1))) (eV 1)) (eC (.int 1))) lNil)) (eC (.int 2147483647))) (gN 2))
  (sCons (sAsg (e2 md (eL toInt (lCons (e2 add (e2 mul (eV 2) (eV 2)) (eC (.int 69621))) lNil)) (eC (.int 2147483629))) (gN 2))
  (sRet (e2 md (eL toInt (lCons (e2 mul (eV 2) (eC (.int 48271))) lNil)) (eC (.int 2147483587))))))
/-- _law_generator(_law_script 0, _law_index 1, _law_seed 2) -/
def b__law_generator (C : Calls) : SS := (sCons (sAsg (eCall C f__law_cell 2 [] (lCons (eV 0) (lCons (eV 1) lNil))) (gN 2))
  (sRet (eLst (lCons (e2 md (eL toInt (lCons (eL max2 (lCons (e2 sub (eV 2) (e2 pow (eC (.int 10)) (eC (.int 18)))) (lCons (eC (.int 0)) lNil))) lNil)) (e2 pow (e2 pow (eC (.int 10)) (eC (.int 60))) (eC (.int 10)))) (lCons (e2 md (eL toInt (lCons (eV 2) lNil)) (eC (.int 2147483647))) (lCons (e2 mul (eC (.int 1000)) (eV 1)) lNil))))))
/-- _law_random(_law_generator_here 0, _law_bound 1, _law_drawn 2, _law_part 3) -/
def b__law_random (C : Calls) : SS := (sCons (sIf (tV (e2 gt (e2 ix (eV 0) (eC (.int 0))) (eC (.int 0)))) (sCons (sAsg (e2 md (eL toInt (lCons (e2 ix (eV 0) (eC (.int 0))) lNil)) (eV 1)) (gN 2))
  (sCons (sAsg (e2 fdiv (e2 ix (eV 0) (eC (.int 0))) (eV 1)) (gSub (eV 0) (eC (.int 0))))
  (sRet (eV 2)))) sNil)
  (sCons (sAsg (eC (.int 0)) (gN 2))
  (sCons (sFor (iRange1 (e2 add (eC (.int 1)) (e2 fdiv (eBits (eV 1)) (eC (.int 30))))) (gN 3) (sCons (sAsg (e2 add (e2 ix (eV 0) (eC (.int 2))) (eC (.int 1))) (gSub (eV 0) (eC (.int 2))))
  (sAsg (e2 add (e2 mul (eV 2) (eC (.int 2147483587))) (eCall C f__law_hash 2 [] (lCons (e2 ix (eV 0) (eC (.int 1))) (lCons (e2 ix (eV 0) (eC (.int 2))) lNil)))) (gN 2))))
  (sRet (e2 md (eL toInt (lCons (eV 2) lNil)) (eV 1))))))
/-- _law_random_chart(_law_generator_here 0, _law_most 1, _law_size 2, _law_kind 3, _law_tree 4, _law_place 5, _law_upper 6) -/
def b__law_random_chart (C : Calls) : SS := (sCons (sAsg (e2 add (eC (.int 1)) (eCall C f__law_random 2 [] (lCons (eV 0) (lCons (eV 1) lNil)))) (gN 2))
  (sCons (sAsg (eCall C f__law_random 2 [] (lCons (eV 0) (lCons (eC (.int 5)) lNil))) (gN 3))
  (sCons (sAsg (eLst (lCons (eC .non) lNil)) (gN 4))
  (sCons (sFor (iRange2 (eC (.int 1)) (eV 2)) (gN 5) (sCons (sAsg (eLst (lCons (e2 sub (eV 5) (eC (.int 1))) (lCons (eC (.int 0)) (lCons (eCall C f__law_random 2 [] (lCons (eV 0) (lCons (eV 5) lNil))) (lCons (eL max2 (lCons (eC (.int 0)) (lCons (e2 sub (e2 sub (eV 5) (eC (.int 1))) (eCall C f__law_random 2 [] (lCons (eV 0) (lCons (eC (.int 3)) lNil)))) lNil))) (lCons (e2 fdiv (eV 5) (eC (.int 2))) lNil)))))) (gN 6))
  (sDrop (eBm "list" append (eV 4) (lCons (eL min2 (lCons (e2 sub (eV 5) (eC (.int 1))) (lCons (e2 ix (eV 6) (eV 3)) lNil))) lNil)))))
  (sRet (eL toTup (lCons (eV 4) lNil)))))))
/-- _law_way(_law_tree 0, _law_place 1, _law_way_here 2) -/
def b__law_way (C : Calls) : SS := (sCons (sAsg (eLst (lCons (eV 1) lNil)) (gN 2))
  (sCons (sWhile (tV (e2 isNotOp (e2 ix (eV 0) (e2 ix (eV 2) (eC (.int 0)))) (eC .non))) (sAsg (e2 add (eLst (lCons (e2 ix (eV 0) (e2 ix (eV 2) (eC (.int 0)))) lNil)) (eV 2)) (gN 2)))
  (sRet (eV 2))))
/-- _law_post_right(_law_tree 0, _law_place 1, _law_expected 2, _law_attempt 3, _law_other 4, _law_path 5, _law_lower 6) -/
def b__law_post_right (C : Calls) : SS := (sCons (sAsg (eLc (iRange1 (eL len (lCons (eV 0) lNil))) (gN 4) (tV (e2 inn (eV 1) (eCall C f__law_way 2 [] (lCons (eV 0) (lCons (eV 4) lNil))))) (eV 4) [4]) (gN 2))
  (sCons (sFor (iRange1 (eC (.int 2))) (gN 3) (sCons (sPar 5 6 (eCall C f_path_to 2 [] (lCons (eV 0) (lCons (eV 1) lNil))) (eCall C f_posts_below 2 [] (lCons (eV 0) (lCons (eV 1) lNil))))
  (sCons (sIf (tOr (tV (e2 ne (eV 5) (eCall C f__law_way 2 [] (lCons (eV 0) (lCons (eV 1) lNil))))) (tV (e2 ne (eV 6) (eV 2)))) (sRet (eC (.bl false))) sNil)
  (sCons (sDrop (eBm "list" append (eV 5) (lCons (eC (.int 0)) lNil)))
  (sDrop (eBm "list" append (eV 6) (lCons (eC (.int 0)) lNil)))))))
  (sRet (eC (.bl true)))))
/-- _law_pair_right(_law_tree 0, _law_one 1, _law_other 2, _law_shared 3, _law_place 4) -/
def b__law_pair_right (C : Calls) : SS := (sCons (sAsg (eLc (iSeq (eCall C f__law_way 2 [] (lCons (eV 0) (lCons (eV 1) lNil)))) (gN 4) (tV (e2 inn (eV 4) (eCall C f__law_way 2 [] (lCons (eV 0) (lCons (eV 2) lNil))))) (eV 4) [4]) (gN 3))
  (sRet (eAnd (e2 eq (eL toStr (lCons (eCall C f_common_post 3 [] (lCons (eV 0) (lCons (eV 1) (lCons (eV 2) lNil)))) lNil)) (eL toStr (lCons (e2 ix (eV 3) (e1 neg (eC (.int 1)))) lNil))) (e2 eq (eCall C f_common_post 3 [] (lCons (eV 0) (lCons (eV 2) (lCons (eV 1) lNil)))) (e2 ix (eV 3) (e1 neg (eC (.int 1))))))))
/-- law(_law_script 0, _law_index 1, _law_generator_here 2, _law_tree 3, _law_size 4, _law_attempt 5, _law_one 6, _law_other 7, _law_place 8) -/
def b_law (C : Calls) : SS := (sCons (sFor (iRange1 (eC (.int 5))) (gN 1) (sCons (sAsg (eCall C f__law_generator 2 [] (lCons (eV 0) (lCons (eV 1) lNil))) (gN 2))
  (sCons (sAsg (eCall C f__law_random_chart 2 [] (lCons (eV 2) (lCons (eC (.int 9)) lNil))) (gN 3))
  (sCons (sIf (tV (e2 eq (eV 1) (eC (.int 4)))) (sAsg (e2 add (eTup (lCons (eC .non) lNil)) (eL toTup (lCons (eLc (iRange2 (eC (.int 1)) (eC (.int 40))) (gN 8) tYes (eCall C f__law_random 2 [] (lCons (eV 2) (lCons (eV 8) lNil))) [8]) lNil))) (gN 3)) sNil)
  (sCons (sAsg (eL len (lCons (eV 3) lNil)) (gN 4))
  (sCons (sIf (tV (e2 ne (eLc (iRange1 (eV 4)) (gN 8) (tNot (tV (eCall C f__law_post_right 2 [] (lCons (eV 3) (lCons (eV 8) lNil))))) (eV 8) [8]) (eLst lNil))) (sRet (eC (.bl false))) sNil)
  (sFor (iRange1 (eL min2 (lCons (e2 mul (eV 4) (eV 4)) (lCons (eC (.int 81)) lNil)))) (gN 5) (sCons (sPar 6 7 (e2 md (eL toInt (lCons (e2 fdiv (eV 5) (eV 4)) lNil)) (eV 4)) (e2 md (eL toInt (lCons (eV 5) lNil)) (eV 4)))
  (sCons (sIf (tV (e2 eq (eV 1) (eC (.int 4)))) (sPar 6 7 (eCall C f__law_random 2 [] (lCons (eV 2) (lCons (eV 4) lNil))) (eCall C f__law_random 2 [] (lCons (eV 2) (lCons (eV 4) lNil)))) sNil)
  (sIf (tNot (tV (eCall C f__law_pair_right 3 [] (lCons (eV 3) (lCons (eV 6) (lCons (eV 7) lNil)))))) (sRet (eC (.bl false))) sNil))))))))))
  (sRet (eC (.bl true))))
def body (f : Nat) (C : Calls) : List MV → MH → Res MV :=
  if f = f_is_whole then callB 1 (b_is_whole C) else
  if f = f_chart_fault then callB 3 (b_chart_fault C) else
  if f = f_require_chart then callB 2 (b_require_chart C) else
  if f = f_require_post then callB 2 (b_require_post C) else
  if f = f_Tree_init then callB 4 (b_Tree_init C) else
  if f = f_Tree_path then callB 3 (b_Tree_path C) else
  if f = f_Tree_is_below then callB 3 (b_Tree_is_below C) else
  if f = f_Tree_common then callB 3 (b_Tree_common C) else
  if f = f_path_to then callB 2 (b_path_to C) else
  if f = f_posts_below then callB 4 (b_posts_below C) else
  if f = f_common_post then callB 3 (b_common_post C) else
  if f = f__law_cell then callB 2 (b__law_cell C) else
  if f = f__law_hash then callB 3 (b__law_hash C) else
  if f = f__law_generator then callB 3 (b__law_generator C) else
  if f = f__law_random then callB 4 (b__law_random C) else
  if f = f__law_random_chart then callB 7 (b__law_random_chart C) else
  if f = f__law_way then callB 3 (b__law_way C) else
  if f = f__law_post_right then callB 7 (b__law_post_right C) else
  if f = f__law_pair_right then callB 5 (b__law_pair_right C) else
  if f = f_law then callB 9 (b_law C) else
  fun _ _ => .bad
def run : Nat → Calls
  | 0 => fun _ _ _ => .bad
  | d + 1 => fun f => body f (run d)
end LawP
set_option maxRecDepth 10000
/-! PCh: what the defs of charts give. -/
namespace LawP
open PySem MP Ch
section
variable {C : Calls} {m : MH}
theorem q_is_whole (i : Int) : callB 1 (b_is_whole C) [.int i] m = .ok (.bl (decide (0 ≤ i))) m := by
  refine callB_rt ?_
  unfold b_is_whole
  simp
def SWhole (C : Calls) : Prop := ∀ i m, C f_is_whole [.int i] m = .ok (.bl (decide (0 ≤ i))) m
/-- the items of a chart -/
def chV (ps : List Nat) : List MV := .non :: ps.map (fun (p : Nat) => MV.int p)
theorem chV_pl (ps : List Nat) : (chV ps).all pl = true := by
  unfold chV
  rw [List.all_cons, List.all_map]
  simp [pl, Function.comp_def]
theorem chV_len (ps : List Nat) : (chV ps).length = ps.length + 1 := by simp [chV]
theorem chV_get {ps : List Nat} (c : Chart ps) {k : Nat} (h : k < ps.length) : (chV ps)[k + 1]? = some (.int (up ps (k + 1) : Nat)) := by
  unfold chV
  rw [List.getElem?_cons_succ, List.getElem?_map, up_eq c h]
  rfl
theorem chV_up {ps : List Nat} (c : Chart ps) {k : Nat} (h : k < ps.length + 1) (h0 : k ≠ 0) : (chV ps)[k]? = some (.int (up ps k : Nat)) := by
  obtain ⟨j, rfl⟩ : ∃ j, k = j + 1 := ⟨k - 1, by omega⟩
  exact chV_get c (by omega)
theorem q_chart_fault (hw : SWhole C) {ps : List Nat} (c : Chart ps) : callB 3 (b_chart_fault C) [.tup (chV ps)] m = .ok .non m := by
  obtain ⟨s', m', e, hi⟩ := sFor_inv (it := iEnum (eV 0)) (g := gTup 2 (gsCons (gN 1) (gsCons (gN 2) gsNil)))
    (b := sIf (tAnd (tV (e2 gt (eV 1) (eC (.int 0)))) (tOr (tNot (tV (eCall C f_is_whole 1 [] (lCons (eV 2) lNil)))) (tV (e2 ge (eV 2) (eV 1))))) (sRet (eTup (lCons (eC (.str (PySem.Str.ofString "post"))) (lCons (eV 1) lNil)))) sNil)
    (s := [some (.tup (chV ps)), none, none]) (m := m) (m1 := m) (xs := enumF 0 (chV ps)) (gd := none) (fun i s m' => m' = m ∧ ∃ a b, s = [some (.tup (chV ps)), a, b]) rfl ⟨rfl, none, none, rfl⟩ (fun _ _ _ _ _ => rfl) (by
      rintro i x s m' hx ⟨rfl, a, b, rfl⟩
      obtain ⟨y, h1, rfl⟩ := enumF_get _ _ _ _ hx
      rw [Nat.zero_add]
      refine ⟨[some (.tup (chV ps)), some (.int i), some y], m', rfl, [some (.tup (chV ps)), some (.int i), some y], m', .inl ?_, rfl, _, _, rfl⟩
      by_cases h0 : i = 0
      · subst h0
        simp
      · have hl : i < ps.length + 1 := by
          have := (List.getElem?_eq_some_iff.mp h1).1
          rwa [chV_len] at this
        have ey : y = .int (up ps i : Nat) := Option.some.inj (h1.symm.trans (chV_up c hl h0))
        subst ey
        have hu := up_lt ps h0
        simp [hw _ _, show 0 < i by omega, show ¬ i ≤ up ps i by omega])
  obtain ⟨rfl, a, b, rfl⟩ := hi
  refine callB_rt ?_
  unfold b_chart_fault
  have e0 : eq m' (.tup (chV ps)) (.tup []) = .ok (.bl false) m' := by
    rw [eq_tup (chV_pl ps) rfl]
    simp [chV]
  have e3 : ix m' (.tup (chV ps)) (.int 0) = .ok .non m' := ix_tup (i := 0) (by simp [chV])
  refine (sCons_nx (s1 := [some (.tup (chV ps)), none, none]) (m1 := m') ?_).trans ((sCons_nx e).trans ?_)
  · simp [e0, e3]
  · simp
def SFault (C : Calls) : Prop := ∀ ps m, Chart ps → C f_chart_fault [.tup (chV ps)] m = .ok .non m
theorem q_require_chart (h : SFault C) {ps : List Nat} (c : Chart ps) : callB 2 (b_require_chart C) [.tup (chV ps)] m = .ok .non m := by
  refine callB_nx (s1 := [some (.tup (chV ps)), some .non]) ?_
  unfold b_require_chart
  simp [h ps _ c]
def SReqChart (C : Calls) : Prop := ∀ ps m, Chart ps → C f_require_chart [.tup (chV ps)] m = .ok .non m
theorem q_require_post (hw : SWhole C) {ps : List Nat} {k : Nat} (h : k < ps.length + 1) : callB 2 (b_require_post C) [.tup (chV ps), .int k] m = .ok .non m := by
  refine callB_nx (s1 := [some (.tup (chV ps)), some (.int k)]) ?_
  unfold b_require_post
  simp [hw _ _, len, chV_len, show ¬ ((ps.length : Int) + 1 ≤ k) by omega]
def SReqPost (C : Calls) : Prop := ∀ ps m (k : Nat), k < ps.length + 1 → C f_require_post [.tup (chV ps), .int k] m = .ok .non m
end
end LawP
set_option maxRecDepth 10000
/-! PTree: what the class Tree gives. -/
namespace LawP
open PySem MP Ch
/-- the posts directly below k among the first j posts -/
def kidsN (ps : List Nat) (k j : Nat) : List Nat := (List.range j).filter fun i => decide (i ≠ 0) && decide (up ps i = k)
def kids (ps : List Nat) (k : Nat) : List Nat := kidsN ps k (ps.length + 1)
def nums (l : List Nat) : List MV := l.map fun (n : Nat) => MV.int n
theorem kidsN_succ (ps : List Nat) (k j : Nat) : kidsN ps k (j + 1) = kidsN ps k j ++ (if j ≠ 0 ∧ up ps j = k then [j] else []) := by
  unfold kidsN
  rw [List.range_succ, List.filter_append]
  congr 1
  by_cases h : j ≠ 0 ∧ up ps j = k
  · rw [if_pos h]; simp [h.1, h.2]
  · rw [if_neg h]
    simp only [List.filter_cons, List.filter_nil]
    rw [if_neg (by simpa using h)]
structure TreeAt (ps : List Nat) (m : MH) (t b : Nat) : Prop where
  obj : m[t]? = some (.ins 0 [(0, .tup (chV ps)), (1, .ref b)])
  below : m[b]? = some (.lst ((List.range (ps.length + 1)).map fun k => .ref (b + 1 + k)))
  kid : ∀ k, k < ps.length + 1 → m[b + 1 + k]? = some (.lst (nums (kids ps k)))
theorem TreeAt.keep {S : Nat → Prop} {ps : List Nat} {m m' : MH} {t b : Nat} (h : TreeAt ps m t b) (k : Keep S m m') (ht : ¬ S t) (hb : ∀ i, b ≤ i → i < b + 1 + (ps.length + 1) → ¬ S i) : TreeAt ps m' t b :=
  ⟨k.2 _ _ ht h.obj, k.2 _ _ (hb b (Nat.le_refl _) (by omega)) h.below, fun i hi => k.2 _ _ (hb _ (by omega) (by omega)) (h.kid i hi)⟩
theorem TreeAt.ext {ps : List Nat} {m m' : MH} {t b : Nat} (h : TreeAt ps m t b) (k : Ext m m') : TreeAt ps m' t b :=
  h.keep (k.keep fun _ => False) (fun z => z) fun _ _ _ z => z
theorem TreeAt.fA {ps : List Nat} {m : MH} {t b : Nat} (h : TreeAt ps m t b) : fld [0] 0 m (.ref t) = .ok (.tup (chV ps)) m := fld_ok h.obj (by simp) rfl
theorem TreeAt.fB {ps : List Nat} {m : MH} {t b : Nat} (h : TreeAt ps m t b) : fld [0] 1 m (.ref t) = .ok (.ref b) m := fld_ok h.obj (by simp) rfl
section
variable {C : Calls} {m : MH}
theorem get_app {l r : MH} {i : Nat} (h : l.length ≤ i) : (l ++ r)[i]? = r[i - l.length]? := List.getElem?_append_right h
theorem len_chV_big {ps : List Nat} (h : ps.length < 100000) : (chV ps).length < big := by rw [chV_len]; unfold big; omega
theorem q_tree_init {ps : List Nat} (c : Chart ps) (hl : ps.length < 100000) {t : Nat} (ht : m[t]? = some (.ins 0 [])) :
    ∃ m', callB 4 (b_Tree_init C) [.ref t, .tup (chV ps)] m = .ok .non m' ∧ Keep (· = t) m m' ∧ TreeAt ps m' t m.length := by
  have htl := get_lt ht
  -- self.above = chart
  let m1 : MH := m.set t (.ins 0 [(0, .tup (chV ps))])
  have l1 : m1.length = m.length := List.length_set
  have w1 : MP.sFld [0] (eV 0) 0 (eV 1) [some (.ref t), some (.tup (chV ps)), none, none] m = .ok (.nx [some (.ref t), some (.tup (chV ps)), none, none]) m1 := by
    simp [MP.sFld, eV, putFld, ht, putN, m1]
  -- self.below = [[] for post in chart]
  obtain ⟨acc, m2, w2, h2, h2a⟩ := eLc_inv (it := iSeq (eV 1)) (g := gN 2) (c := tYes) (a := eLst lNil) (vs := [2]) (s := [some (.ref t), some (.tup (chV ps)), none, none]) (m := m1) (m1 := m1) (xs := chV ps) (gd := none)
    (fun i acc m' => m' = m1 ++ (.lst acc :: List.replicate i (.lst [])) ∧ acc = (List.range i).map fun k => .ref (m1.length + 1 + k)) rfl (len_chV_big hl) ⟨by simp, by simp⟩ (fun _ _ _ _ _ => rfl)
    (by rintro i acc m' ⟨rfl, rfl⟩; simp)
    (by
      rintro i x acc m' hx ⟨rfl, ha⟩
      refine ⟨_, _, rfl, true, _, rfl, fun z => absurd z (by decide), fun _ => ⟨.ref (m1.length + 1 + i), m1 ++ (.lst acc :: List.replicate (i + 1) (.lst [])), ?_, by simp, ?_, ?_⟩⟩
      · simp only [eLst, eL, lNil, bind_ok, List.length_nil, Nat.zero_le, if_true, new]
        congr 1
        · congr 1
          simp
          omega
        · simp [List.replicate_succ']
      · rw [List.set_append_right _ _ (Nat.le_refl _)]
        simp
      · rw [ha, List.range_succ, List.map_append]
        rfl)
  rw [chV_len] at h2 h2a
  have l2 : m2.length = m.length + 1 + (ps.length + 1) := by rw [h2]; simp [l1]; omega
  have g2 : ∀ i, i < m.length → m2[i]? = m1[i]? := fun i hi => by rw [h2, List.getElem?_append_left (by rw [l1]; exact hi)]
  have t2 : m2[t]? = some (.ins 0 [(0, .tup (chV ps))]) := by rw [g2 t htl]; exact get_set ht
  let m3 : MH := m2.set t (.ins 0 [(0, .tup (chV ps)), (1, .ref m.length)])
  have l3 : m3.length = m.length + 1 + (ps.length + 1) := by rw [show m3.length = m2.length from List.length_set, l2]
  have e3 : MP.sFld [0] (eV 0) 1 (eLc (iSeq (eV 1)) (gN 2) tYes (eLst lNil) [2]) [some (.ref t), some (.tup (chV ps)), none, none] m1 = .ok (.nx [some (.ref t), some (.tup (chV ps)), none, none]) m3 := by
    rw [l1] at w2
    simp [MP.sFld, eV, w2, putFld, t2, putN, m3]
  have b3 : m3[m.length]? = some (.lst ((List.range (ps.length + 1)).map fun k => .ref (m.length + 1 + k))) := by
    rw [show m3[m.length]? = m2[m.length]? from get_set_ne (by omega), h2, get_app (by omega), h2a]
    simp [l1]
  have k3 : ∀ k, k < ps.length + 1 → m3[m.length + 1 + k]? = some (.lst []) := fun k hk => by
    rw [show m3[m.length + 1 + k]? = m2[m.length + 1 + k]? from get_set_ne (by omega), h2, get_app (by omega)]
    rw [show m.length + 1 + k - m1.length = k + 1 by omega, List.getElem?_cons_succ, List.getElem?_replicate, if_pos hk]
  have t3 : m3[t]? = some (.ins 0 [(0, .tup (chV ps)), (1, .ref m.length)]) := get_set t2
  -- the loop
  obtain ⟨s', m', e4, h4⟩ := sFor_inv (it := iEnum (eV 1)) (g := gTup 2 (gsCons (gN 2) (gsCons (gN 3) gsNil)))
    (b := sIf (tV (e2 isNotOp (eV 3) (eC .non))) (sDrop (eBm "list" append (e2 ix (eFld [0] 1 (eV 0)) (eV 3)) (lCons (eV 2) lNil))) sNil)
    (s := [some (.ref t), some (.tup (chV ps)), none, none]) (m := m3) (m1 := m3) (xs := enumF 0 (chV ps)) (gd := none)
    (fun i s m' => (∃ a b, s = [some (.ref t), some (.tup (chV ps)), a, b]) ∧ m'.length = m3.length ∧ (∀ j, j < m.length + 1 → m'[j]? = m3[j]?) ∧ ∀ k, k < ps.length + 1 → m'[m.length + 1 + k]? = some (.lst (nums (kidsN ps k i))))
    rfl ⟨⟨none, none, rfl⟩, rfl, fun _ _ => rfl, fun k hk => by rw [k3 k hk]; rfl⟩ (fun _ _ _ _ _ => rfl) (by
      rintro i x s m' hx ⟨⟨a, b, rfl⟩, hlen, hlow, hk⟩
      obtain ⟨y, h1, rfl⟩ := enumF_get _ _ _ _ hx
      rw [Nat.zero_add]
      have hi : i < ps.length + 1 := by
        have := (List.getElem?_eq_some_iff.mp h1).1
        rwa [chV_len] at this
      refine ⟨[some (.ref t), some (.tup (chV ps)), some (.int i), some y], m', rfl, [some (.ref t), some (.tup (chV ps)), some (.int i), some y], ?_⟩
      by_cases h0 : i = 0
      · subst h0
        have ey : y = .non := Option.some.inj (h1.symm.trans (by simp [chV]))
        subst ey
        refine ⟨m', .inl ?_, ⟨_, _, rfl⟩, hlen, hlow, fun k hk' => ?_⟩
        · simp
        · rw [hk k hk', kidsN_succ]; simp
      · have ey : y = .int (up ps i : Nat) := Option.some.inj (h1.symm.trans (chV_up c hi h0))
        subst ey
        have hu := up_lt ps h0
        have hq := hk (up ps i) (by omega)
        have e5 : m'[t]? = some (.ins 0 [(0, .tup (chV ps)), (1, .ref m.length)]) := by rw [hlow t (by omega)]; exact t3
        have e6 : m'[m.length]? = some (.lst ((List.range (ps.length + 1)).map fun k => .ref (m.length + 1 + k))) := by rw [hlow _ (by omega)]; exact b3
        have e7 : ix m' (.ref m.length) (.int (up ps i : Nat)) = .ok (.ref (m.length + 1 + up ps i)) m' := ix_lst e6 (by rw [List.getElem?_map, List.getElem?_range (by omega)]; rfl)
        have hkl : (nums (kidsN ps (up ps i) i)).length < big := by
          unfold nums kidsN
          rw [List.length_map]
          refine Nat.lt_of_le_of_lt (List.length_filter_le _ _) ?_
          rw [List.length_range]
          unfold big
          omega
        refine ⟨m'.set (m.length + 1 + up ps i) (.lst (nums (kidsN ps (up ps i) i) ++ [.int i])), .inl ?_, ⟨_, _, rfl⟩, by rw [List.length_set]; exact hlen, fun j hj => ?_, fun k hk' => ?_⟩
        · simp [fld_ok e5 (show 0 ∈ [0] by simp) (show List.lookup 1 _ = some (MV.ref m.length) from rfl), e7, tyName_lst hq, append_ok hq hkl]
        · rw [get_set_ne (by omega)]; exact hlow j hj
        · by_cases hku : k = up ps i
          · subst hku
            rw [get_set hq, kidsN_succ]
            simp [h0, nums]
          · rw [get_set_ne (by omega), hk k hk', kidsN_succ]
            simp [Ne.symm hku])
  rw [enumF_len, chV_len] at h4
  obtain ⟨⟨a, b, rfl⟩, hlen, hlow, hk⟩ := h4
  refine ⟨m', ?_, ⟨by omega, fun i o hi e => ?_⟩, ⟨?_, ?_, hk⟩⟩
  · refine callB_nx (s1 := [some (.ref t), some (.tup (chV ps)), a, b]) ?_
    unfold b_Tree_init
    exact (sCons_nx w1).trans ((sCons_nx e3).trans e4)
  · have hil := get_lt e
    rw [hlow i (by omega), show m3[i]? = m2[i]? from get_set_ne (Ne.symm hi), g2 i hil, show m1[i]? = m[i]? from get_set_ne (Ne.symm hi)]
    exact e
  · rw [hlow t (by omega)]; exact t3
  · rw [hlow _ (by omega)]; exact b3
def STreeInit (C : Calls) : Prop := ∀ ps m t, Chart ps → ps.length < 100000 → m[t]? = some (.ins 0 []) → ∃ m', C f_Tree_init [.ref t, .tup (chV ps)] m = .ok .non m' ∧ Keep (· = t) m m' ∧ TreeAt ps m' t m.length
/-- Tree(chart) -/
theorem make_tree {ps : List Nat} {s : MP.Env} {la : LS} {m1 : MH} (h : STreeInit C) (c : Chart ps) (hl : ps.length < 100000) (ea : la s m = .ok [.tup (chV ps)] m1) :
    ∃ m', eMake C 0 f_Tree_init 2 [] la s m = .ok (.ref m1.length) m' ∧ Ext m1 m' ∧ TreeAt ps m' m1.length (m1.length + 1) := by
  obtain ⟨m', e, k, t⟩ := h ps (m1 ++ [.ins 0 []]) m1.length c hl (get_new _ _)
  refine ⟨m', ?_, ?_, by simpa using t⟩
  · simp [eMake, ea, e]
  · refine ⟨m'.drop m1.length, List.ext_getElem? fun i => ?_⟩
    by_cases hi : i < m1.length
    · rw [List.getElem?_append_left hi]
      have := k.2 i m1[i] (by omega) (by rw [List.getElem?_append_left hi]; simp [hi])
      rw [this]; simp [hi]
    · rw [List.getElem?_append_right (by omega), List.getElem?_drop]
      congr 1
      omega
theorem q_path {ps : List Nat} (c : Chart ps) (hl : ps.length < 100000) {t b : Nat} (T : TreeAt ps m t b) {k : Nat} (hk : k < ps.length + 1) :
    ∃ m', callB 3 (b_Tree_path C) [.ref t, .int k] m = .ok (.ref (m.length + 1)) m' ∧ Ext m m' ∧ m'[m.length + 1]? = some (.lst (nums (path ps k))) := by
  have hb : big = 1000000 := rfl
  -- posts = [post]
  have w1 : sAsg (eLst (lCons (eV 1) lNil)) (gN 2) [some (.ref t), some (.int k), none] m = .ok (.nx [some (.ref t), some (.int k), some (.ref m.length)]) (m ++ [.lst [.int k]]) := by
    simp [new, hb]
  obtain ⟨s', m', w2, h2⟩ := sWhile_inv (c := tV (e2 ne (e2 ix (eV 2) (e1 neg (eC (.int 1)))) (eC (.int 0))))
    (b := sDrop (eBm "list" append (eV 2) (lCons (e2 ix (eFld [0] 0 (eV 0)) (e2 ix (eV 2) (e1 neg (eC (.int 1))))) lNil)))
    (s := [some (.ref t), some (.int k), some (.ref m.length)]) (m := m ++ [.lst [.int k]])
    (fun s m' => s = [some (.ref t), some (.int k), some (.ref m.length)] ∧ ∃ (l : List Nat) (x : Nat), m' = m ++ [.lst (nums (l ++ [x]))] ∧ x < ps.length + 1 ∧ l ++ anc ps x = anc ps k)
    (fun s m' => match m'[m.length]? with
      | some (.lst xs) => (match xs.getLast? with
        | some (.int i) => i.toNat
        | _ => 0)
      | _ => 0)
    (fun s m' => s = [some (.ref t), some (.int k), some (.ref m.length)] ∧ m' = m ++ [.lst (nums (anc ps k))])
    ⟨rfl, [], k, by simp [nums], hk, by simp⟩ (by simp [loops]; omega) (by
      rintro s m' ⟨rfl, l, x, rfl, hx, hanc⟩
      have hg : (m ++ [MO.lst (nums (l ++ [x]))])[m.length]? = some (.lst (nums l ++ [.int x])) := by simp [nums]
      refine ⟨decide (x ≠ 0), m ++ [MO.lst (nums (l ++ [x]))], ?_, fun h => ⟨rfl, ?_⟩, fun h => ?_⟩
      · simp [ix_last hg, MP.ne_int]
      · have : x = 0 := by simpa using h
        subst this
        rw [anc_zero] at hanc
        rw [hanc]
      · have h0 : x ≠ 0 := by simpa using h
        have hu := up_lt ps h0
        have hlen : (nums (l ++ [x])).length < big := by
          have := congrArg List.length hanc
          have h3 := anc_length ps k
          have h4 : (anc ps x).length ≥ 1 := by rw [anc_pos ps h0]; simp
          simp only [List.length_append] at this
          simp [nums]
          omega
        have T2 := T.ext (Ext.one m (.lst (nums (l ++ [x]))))
        have e3 : ix (m ++ [MO.lst (nums (l ++ [x]))]) (.tup (chV ps)) (.int x) = .ok (.int (up ps x : Nat)) (m ++ [MO.lst (nums (l ++ [x]))]) := ix_tup (chV_up c hx h0)
        refine ⟨[some (.ref t), some (.int k), some (.ref m.length)], m ++ [.lst (nums (l ++ [x] ++ [up ps x]))], .inl ?_, ⟨rfl, l ++ [x], up ps x, rfl, by omega, ?_⟩, ?_⟩
        · simp
          have hg' : (m ++ [MO.lst (nums (l ++ [x]))])[m.length]? = some (.lst (nums (l ++ [x]))) := by simp
          simp [tyName_lst hg', ix_last hg, T2.fA, e3, append_ok hg' hlen]
          simp [nums]
        · rw [← hanc, anc_pos ps h0]; simp
        · simp [nums]
          omega)
  obtain ⟨rfl, rfl⟩ := h2
  refine ⟨m ++ [.lst (nums (anc ps k))] ++ [.lst (nums (anc ps k)).reverse], ?_, ⟨[.lst (nums (anc ps k)), .lst (nums (anc ps k)).reverse], by simp⟩, ?_⟩
  · refine callB_rt ?_
    unfold b_Tree_path
    refine (sCons_nx w1).trans ((sCons_nx w2).trans (sRet_ok ?_))
    simp [eRev, eV, lstOf, new]
  · simp [path, nums]
def SPath (C : Calls) : Prop := ∀ ps m t b (k : Nat), Chart ps → ps.length < 100000 → TreeAt ps m t b → k < ps.length + 1 → ∃ m', C f_Tree_path [.ref t, .int k] m = .ok (.ref (m.length + 1)) m' ∧ Ext m m' ∧ m'[m.length + 1]? = some (.lst (nums (path ps k)))
theorem q_is_below {ps : List Nat} (c : Chart ps) (hl : ps.length < 100000) {t b : Nat} (T : TreeAt ps m t b) {k u : Nat} (hk : k < ps.length + 1) :
    callB 3 (b_Tree_is_below C) [.ref t, .int k, .int u] m = .ok (.bl (isBelow ps k u)) m := by
  obtain ⟨s', m', w2, h2⟩ := sWhile_inv (c := tV (e2 gt (eV 1) (eV 2))) (b := sAsg (e2 ix (eFld [0] 0 (eV 0)) (eV 1)) (gN 1)) (s := [some (.ref t), some (.int k), some (.int u)]) (m := m)
    (fun s m' => m' = m ∧ ∃ x : Nat, s = [some (.ref t), some (.int x), some (.int u)] ∧ x < ps.length + 1 ∧ isBelow ps x u = isBelow ps k u)
    (fun (s : MP.Env) (_ : MH) => match s[1]? with
      | some (some (MV.int i)) => i.toNat
      | _ => 0)
    (fun s m' => m' = m ∧ ∃ x : Nat, s = [some (.ref t), some (.int x), some (.int u)] ∧ isBelow ps k u = decide (x = u))
    ⟨rfl, k, rfl, hk, rfl⟩ (by simp [loops]; omega) (by
      rintro s m' ⟨rfl, x, rfl, hx, hb⟩
      refine ⟨decide (u < x), m', ?_, fun h => ⟨rfl, x, rfl, ?_⟩, fun h => ?_⟩
      · simp
      · rw [← hb, isBelow_end (by simpa using h)]
      · have hux : u < x := by simpa using h
        have h0 : x ≠ 0 := by omega
        have hu := up_lt ps h0
        have e3 : ix m' (.tup (chV ps)) (.int x) = .ok (.int (up ps x : Nat)) m' := ix_tup (chV_up c hx h0)
        refine ⟨[some (.ref t), some (.int (up ps x : Nat)), some (.int u)], m', .inl ?_, ⟨rfl, _, rfl, by omega, ?_⟩, ?_⟩
        · simp [T.fA, e3]
        · rw [isBelow_step hux]; exact hb
        · simp; omega)
  obtain ⟨rfl, x, rfl, hb⟩ := h2
  refine callB_rt ?_
  unfold b_Tree_is_below
  refine (sCons_nx w2).trans (sRet_ok ?_)
  simp [MP.eq_int, hb]
  omega
def SIsBelow (C : Calls) : Prop := ∀ ps m t b (k u : Nat), Chart ps → ps.length < 100000 → TreeAt ps m t b → k < ps.length + 1 → C f_Tree_is_below [.ref t, .int k, .int u] m = .ok (.bl (isBelow ps k u)) m
theorem q_common {ps : List Nat} (c : Chart ps) (hl : ps.length < 100000) {t b : Nat} (T : TreeAt ps m t b) {x y : Nat} (hx : x < ps.length + 1) (hy : y < ps.length + 1) :
    callB 3 (b_Tree_common C) [.ref t, .int x, .int y] m = .ok (.int (com ps x y : Nat)) m := by
  obtain ⟨s', m', w2, h2⟩ := sWhile_inv (c := tV (e2 ne (eV 1) (eV 2))) (b := sPar 1 2 (e2 ix (eFld [0] 0 (eV 0)) (eL max2 (lCons (eV 1) (lCons (eV 2) lNil)))) (eL min2 (lCons (eV 1) (lCons (eV 2) lNil))))
    (s := [some (.ref t), some (.int x), some (.int y)]) (m := m)
    (fun s m' => m' = m ∧ ∃ u v : Nat, s = [some (.ref t), some (.int u), some (.int v)] ∧ u < ps.length + 1 ∧ v < ps.length + 1 ∧ com ps u v = com ps x y)
    (fun (s : MP.Env) (_ : MH) => match s[1]?, s[2]? with
      | some (some (MV.int i)), some (some (MV.int j)) => i.toNat + j.toNat
      | _, _ => 0)
    (fun s m' => m' = m ∧ ∃ v : MV, s = [some (.ref t), some (.int (com ps x y : Nat)), some v])
    ⟨rfl, x, y, rfl, hx, hy, rfl⟩ (by simp [loops]; omega) (by
      rintro s m' ⟨rfl, u, v, rfl, hu, hv, hc⟩
      refine ⟨decide (u ≠ v), m', ?_, fun h => ⟨rfl, .int v, ?_⟩, fun h => ?_⟩
      · simp [MP.ne_int]
        omega
      · have : u = v := by simpa using h
        subst this
        rw [← hc, com_same]
      · have huv : u ≠ v := by simpa using h
        have hm0 : max u v ≠ 0 := by omega
        have hup := up_lt ps hm0
        have e3 : ix m' (.tup (chV ps)) (.int (max u v : Nat)) = .ok (.int (up ps (max u v) : Nat)) m' := ix_tup (chV_up c (by omega) hm0)
        refine ⟨[some (.ref t), some (.int (up ps (max u v) : Nat)), some (.int (min u v : Nat))], m', .inl ?_, ⟨rfl, _, _, rfl, by omega, by omega, ?_⟩, ?_⟩
        · simp [T.fA, max2_nat, min2_nat, e3]
        · rw [← com_step ps huv]; exact hc
        · simp; omega)
  obtain ⟨rfl, v, rfl⟩ := h2
  refine callB_rt ?_
  unfold b_Tree_common
  refine (sCons_nx w2).trans (sRet_ok ?_)
  simp
def SCommon (C : Calls) : Prop := ∀ ps m t b (x y : Nat), Chart ps → ps.length < 100000 → TreeAt ps m t b → x < ps.length + 1 → y < ps.length + 1 → C f_Tree_common [.ref t, .int x, .int y] m = .ok (.int (com ps x y : Nat)) m
end
end LawP
set_option maxRecDepth 10000
/-! PPosts: path_to, posts_below, common_post. -/
namespace LawP
open PySem MP Ch
section
variable {C : Calls} {m : MH}
theorem q_path_to (h1 : SReqChart C) (h2 : SReqPost C) (h3 : STreeInit C) (h4 : SPath C) {ps : List Nat} (c : Chart ps) (hl : ps.length < 100000) {k : Nat} (hk : k < ps.length + 1) :
    ∃ m' p, callB 2 (b_path_to C) [.tup (chV ps), .int k] m = .ok (.ref p) m' ∧ Ext m m' ∧ m.length ≤ p ∧ m'[p]? = some (.lst (nums (path ps k))) := by
  obtain ⟨m1, e1, x1, T⟩ := make_tree (C := C) (la := lCons (eV 0) lNil) (s := [some (.tup (chV ps)), some (.int k)]) (m := m) (m1 := m) h3 c hl rfl
  obtain ⟨m2, e2, x2, g⟩ := h4 ps m1 m.length (m.length + 1) k c hl T hk
  refine ⟨m2, m1.length + 1, callB_rt ?_, x1.trans x2, by have := x1.len; omega, g⟩
  unfold b_path_to
  simp [h1 ps _ c, h2 ps _ k hk, e1, T.obj, e2]
def SPathTo (C : Calls) : Prop := ∀ ps m (k : Nat), Chart ps → ps.length < 100000 → k < ps.length + 1 → ∃ m' p, C f_path_to [.tup (chV ps), .int k] m = .ok (.ref p) m' ∧ Ext m m' ∧ m.length ≤ p ∧ m'[p]? = some (.lst (nums (path ps k)))
theorem q_common_post (h1 : SReqChart C) (h2 : SReqPost C) (h3 : STreeInit C) (h4 : SCommon C) {ps : List Nat} (c : Chart ps) (hl : ps.length < 100000) {x y : Nat} (hx : x < ps.length + 1) (hy : y < ps.length + 1) :
    ∃ m', callB 3 (b_common_post C) [.tup (chV ps), .int x, .int y] m = .ok (.int (com ps x y : Nat)) m' ∧ Ext m m' := by
  obtain ⟨m1, e1, x1, T⟩ := make_tree (C := C) (la := lCons (eV 0) lNil) (s := [some (.tup (chV ps)), some (.int x), some (.int y)]) (m := m) (m1 := m) h3 c hl rfl
  refine ⟨m1, callB_rt ?_, x1⟩
  unfold b_common_post
  simp [h1 ps _ c, h2 ps _ x hx, h2 ps _ y hy, e1, T.obj, h4 ps m1 _ _ x y c hl T hx hy]
def SCommonPost (C : Calls) : Prop := ∀ ps m (x y : Nat), Chart ps → ps.length < 100000 → x < ps.length + 1 → y < ps.length + 1 → ∃ m', C f_common_post [.tup (chV ps), .int x, .int y] m = .ok (.int (com ps x y : Nat)) m' ∧ Ext m m'
theorem upto_eq (lo : Int) : ∀ n, upto lo n = (List.range n).map fun i => MV.int (lo + (i : Nat))
  | 0 => rfl
  | n + 1 => by
    rw [upto, upto_eq (lo + 1) n, List.range_succ_eq_map, List.map_cons, List.map_map]
    rw [show lo + ((0 : Nat) : Int) = lo by omega]
    simp only [Function.comp_def]
    congr 1
    apply List.map_congr_left
    intro i _
    congr 1
    omega
theorem upto_nums (n : Nat) : upto 0 n = nums (List.range n) := by
  rw [upto_eq]
  unfold nums
  apply List.map_congr_left
  intro i _
  congr 1
  omega
/-- the posts of which k is on the path -/
def under (ps : List Nat) (k : Nat) : List Nat := (List.range (ps.length + 1)).filter fun x => isBelow ps x k
theorem q_posts_below (h1 : SReqChart C) (h2 : SReqPost C) (h3 : STreeInit C) (h4 : SIsBelow C) {ps : List Nat} (c : Chart ps) (hl : ps.length < 100000) {k : Nat} (hk : k < ps.length + 1) :
    ∃ m' p, callB 4 (b_posts_below C) [.tup (chV ps), .int k] m = .ok (.ref p) m' ∧ Ext m m' ∧ m.length ≤ p ∧ m'[p]? = some (.lst (nums (under ps k))) := by
  obtain ⟨m1, e1, x1, T⟩ := make_tree (C := C) (la := lCons (eV 0) lNil) (s := [some (.tup (chV ps)), some (.int k), none, none]) (m := m) (m1 := m) h3 c hl rfl
  have hb : bits ((ps.length + 1 : Nat) : Int) 60 = true := bits_of (k := 20) (by omega) (by decide)
  obtain ⟨m2, e2, x2, hp, g⟩ := eLc_pure (it := iRange1 (eL len (lCons (eV 0) lNil))) (g := gN 3) (c := tV (eMeth C 0 f_Tree_is_below 3 [] (eV 2) (lCons (eV 3) (lCons (eV 1) lNil)))) (a := eV 3) (vs := [3])
    (s := [some (.tup (chV ps)), some (.int k), some (.ref m.length), none]) (m := m1) (m1 := m1) (xs := nums (List.range (ps.length + 1))) (gd := none)
    (fun v => match v with | .int i => isBelow ps i.toNat k | _ => false) (fun v => v)
    (by
      simp only [iRange1_ap, eL_ap, lCons_ap, eV_ap, lNil_ap, List.getElem?_cons_zero, bind_ok, len, chV_len]
      rw [if_pos hb]
      simp [upto_nums]) (Ext.refl _) (by simp [nums]; have : big = 1000000 := rfl; omega) (fun _ _ => rfl)
    (by
      intro x m2 hx he
      simp only [nums, List.mem_map, List.mem_range] at hx
      obtain ⟨i, hi, rfl⟩ := hx
      have T2 := T.ext he
      refine ⟨[some (.tup (chV ps)), some (.int k), some (.ref m.length), some (.int i)], by simp [wipe], m2, ?_, Ext.refl _, fun _ => ⟨m2, by simp, Ext.refl _⟩⟩
      simp [T2.obj, h4 ps m2 _ _ i k c hl T2 hi])
  refine ⟨m2, m1.length, callB_rt ?_, x1.trans x2, x1.len, ?_⟩
  · unfold b_posts_below
    simp [h1 ps _ c, h2 ps _ k hk, e1, -iRange1_ap, e2]
  · rw [g]
    simp only [nums, under, List.filter_map, List.map_id', Function.comp_def, Int.toNat_natCast]
def SPostsBelow (C : Calls) : Prop := ∀ ps m (k : Nat), Chart ps → ps.length < 100000 → k < ps.length + 1 → ∃ m' p, C f_posts_below [.tup (chV ps), .int k] m = .ok (.ref p) m' ∧ Ext m m' ∧ m.length ≤ p ∧ m'[p]? = some (.lst (nums (under ps k)))
end
end LawP
set_option maxRecDepth 10000
/-! LGen: the laws' generators. -/
namespace LawP
open PySem MP Ch
section
variable {C : Calls} {m : MH}
theorem q_cell {ns : List Int} {i : Nat} : callB 2 (b__law_cell C) [.fro (ns.map .int), .int i] m = .ok (.int (ns.getD i 0)) m := by
  refine callB_rt ?_
  unfold b__law_cell
  by_cases h : i < ns.length
  · have e : ix m (.fro (ns.map .int)) (.int i) = .ok (.int (ns.getD i 0)) m := ix_fro (by simp [List.getElem?_map, h])
    simp [len, h, e]
  · simp [len, h, List.getD]
def SCell (C : Calls) : Prop := ∀ (ns : List Int) (i : Nat) m, C f__law_cell [.fro (ns.map .int), .int i] m = .ok (.int (ns.getD i 0)) m
def hsh (a b : Int) : Int := ((((a * 1103515245 + 7919 * b * b + b + 1) % 2147483647) * ((a * 1103515245 + 7919 * b * b + b + 1) % 2147483647) + 69621) % 2147483629) * 48271 % 2147483587
theorem hsh_lt (a b : Int) : 0 ≤ hsh a b ∧ hsh a b < 2147483587 := ⟨Int.emod_nonneg _ (by decide), Int.emod_lt_of_pos _ (by decide)⟩
theorem small_b {i : Int} (h : -(2 ^ 200) < i) (k : i < 2 ^ 200) : small i = true := small_n (by omega)
theorem q_hash {a b : Int} (ha : 0 ≤ a ∧ a < 2 ^ 31) (hb : 0 ≤ b ∧ b < 2 ^ 60) : callB 3 (b__law_hash C) [.int a, .int b] m = .ok (.int (hsh a b)) m := by
  refine callB_rt ?_
  have h1 := small_b (i := a) (by omega) (by omega)
  have h2 := small_b (i := b) (by omega) (by omega)
  have h3 : small (7919 * b) = true := small_b (by omega) (by omega)
  have h4 : small 1103515245 = true := small_b (by omega) (by omega)
  have h5 : small 7919 = true := small_b (by omega) (by omega)
  have h6 : small 48271 = true := small_b (by omega) (by omega)
  have h7 : ∀ x : Int, small (x % 2147483647) = true := fun x => small_b (by omega) (by omega)
  have h8 : ∀ x : Int, small (x % 2147483629) = true := fun x => small_b (by omega) (by omega)
  unfold b__law_hash
  simp [mul, md, h1, h2, h3, h4, h5, h6, h7, h8, hsh]
def SHash (C : Calls) : Prop := ∀ (a b : Int) m, 0 ≤ a ∧ a < 2 ^ 31 → 0 ≤ b ∧ b < 2 ^ 60 → C f__law_hash [.int a, .int b] m = .ok (.int (hsh a b)) m
/-- a generator whose counter is below n -/
def Gen (m : MH) (g : Nat) (n : Nat) : Prop := ∃ a b c : Int, m[g]? = some (.lst [.int a, .int b, .int c]) ∧ (0 ≤ a ∧ a < (10 ^ 60) ^ 10) ∧ (0 ≤ b ∧ b < 2 ^ 31) ∧ (0 ≤ c ∧ c ≤ n)
theorem Gen.keep {S : Nat → Prop} {m m' : MH} {g n : Nat} (h : Gen m g n) (k : Keep S m m') (hg : ¬ S g) : Gen m' g n := by
  obtain ⟨a, b, c, e, r⟩ := h
  exact ⟨a, b, c, k.2 _ _ hg e, r⟩
theorem Gen.ext {m m' : MH} {g n : Nat} (h : Gen m g n) (k : Ext m m') : Gen m' g n := h.keep (k.keep fun _ => False) (fun z => z)
theorem Gen.mono {m : MH} {g n n' : Nat} (h : Gen m g n) (k : n ≤ n') : Gen m g n' := by
  obtain ⟨a, b, c, e, r1, r2, r3⟩ := h
  exact ⟨a, b, c, e, r1, r2, by omega⟩
theorem pow60 : (10 : Int) ^ 60 < 2 ^ 200 := by decide
theorem small_a : ∀ {a : Int}, 0 ≤ a → a < (10 ^ 60) ^ 10 → small a = true := by
  intro a h k
  refine small_of (k := 2000) ?_ (by decide)
  have : ((10 : Int) ^ 60) ^ 10 < 2 ^ 2000 := by decide
  omega
theorem q_generator (h : SCell C) {ns : List Int} {i : Nat} (hi : i < 1000) : callB 3 (b__law_generator C) [.fro (ns.map .int), .int i] m =
    .ok (.ref m.length) (m ++ [.lst [.int (max (ns.getD i 0 - 10 ^ 18) 0 % (10 ^ 60) ^ 10), .int (ns.getD i 0 % 2147483647), .int (1000 * i)]]) := by
  refine callB_rt ?_
  unfold b__law_generator
  have h1 : small 10 = true := small_b (by omega) (by omega)
  have h2 : small ((10 : Int) ^ 60) = true := small_n (by decide)
  have h3 : small 1000 = true := small_b (by omega) (by omega)
  have h4 : small (i : Int) = true := small_b (by omega) (by omega)
  have hp : (0 : Int) < (10 ^ 60) ^ 10 := by decide
  have hb : 3 ≤ big := by decide
  simp [-Int.reducePow, h ns i, MP.pow, h1, h2, h3, h4, md, mul, max2_int, hp, new, hb]
def SGenerator (C : Calls) : Prop := ∀ (ns : List Int) (i : Nat) m, i < 1000 → ∃ m', C f__law_generator [.fro (ns.map .int), .int i] m = .ok (.ref m.length) m' ∧ Ext m m' ∧ Gen m' m.length (1000 * i)
theorem sgenerator (h : ∀ (ns : List Int) (i : Nat) m, i < 1000 → C f__law_generator [.fro (ns.map .int), .int i] m =
    .ok (.ref m.length) (m ++ [.lst [.int (max (ns.getD i 0 - 10 ^ 18) 0 % (10 ^ 60) ^ 10), .int (ns.getD i 0 % 2147483647), .int (1000 * i)]])) : SGenerator C := by
  intro ns i m hi
  refine ⟨_, h ns i m hi, Ext.one _ _, _, _, _, get_new _ _, ⟨Int.emod_nonneg _ (by decide), Int.emod_lt_of_pos _ (by decide)⟩, ⟨Int.emod_nonneg _ (by decide), ?_⟩, by omega⟩
  have := Int.emod_lt_of_pos (ns.getD i 0) (show (0 : Int) < 2147483647 by decide)
  omega
theorem setIx_ok {p i : Nat} {xs : List MV} {v : MV} (h : m[p]? = some (.lst xs)) (hi : i < xs.length) : setIx m (.ref p) (.int i) v = .ok () (m.set p (.lst (xs.set i v))) := by
  have e : L2.ixN xs.length (i : Int) = some i := by
    unfold L2.ixN
    rw [if_pos (by omega), if_pos (by omega)]
    simp
  simp [setIx, lstOf, h, e]
theorem q_random (hh : SHash C) {g n N : Nat} (hg : Gen m g n) (h0 : 0 < N) (hN : N < 2 ^ 89) (hn : n + 3 < 2 ^ 60) :
    ∃ m' r, callB 4 (b__law_random C) [.ref g, .int N] m = .ok (.int (r : Nat)) m' ∧ r < N ∧ Keep (· = g) m m' ∧ m'.length = m.length ∧ Gen m' g (n + 3) := by
  obtain ⟨a, b, c, hm, ha, hb, hc⟩ := hg
  have i0 : ix m (.ref g) (.int 0) = .ok (.int a) m := ix_lst (i := 0) hm rfl
  have hsN : small (N : Int) = true := small_b (by omega) (by omega)
  have hmod : ∀ x : Int, 0 ≤ x % (N : Int) ∧ x % N < N := fun x => ⟨Int.emod_nonneg _ (by omega), Int.emod_lt_of_pos _ (by omega)⟩
  by_cases hp : 0 < a
  · refine ⟨m.set g (.lst [.int (a / N), .int b, .int c]), (a % N).toNat, ?_, by have := hmod a; omega, Keep.of_set _ _ _, List.length_set, a / N, b, c, get_set hm, ⟨Int.ediv_nonneg ha.1 (by omega), ?_⟩, hb, by omega⟩
    · refine callB_rt ?_
      unfold b__law_random
      have e2 : setIx m (.ref g) (.int 0) (.int (a / N)) = .ok () (m.set g (.lst [.int (a / N), .int b, .int c])) := setIx_ok (i := 0) hm (by simp)
      simp [i0, hp, md, fdiv, h0, hsN, e2, Int.toNat_of_nonneg (hmod a).1]
    · have : a / N ≤ a := Int.ediv_le_self _ ha.1
      omega
  · have hbits : Builtin.Int.intBits (N : Int) ≤ 89 := by
      unfold Builtin.Int.intBits
      have hl : (N : Int).natAbs.log2 < 89 := by
        rw [Int.natAbs_natCast]
        exact (Nat.log2_lt (by omega)).mpr hN
      split <;> omega
    have hk : 1 + Builtin.Int.intBits (N : Int) / 30 ≤ 3 := by omega
    have ha0 : a = 0 := by omega
    obtain ⟨s', m', e, d, z, rfl, hd, hkp, hl, c', hm', hc'⟩ := sFor_inv (it := iRange1 (e2 add (eC (.int 1)) (e2 fdiv (eBits (eV 1)) (eC (.int 30))))) (g := gN 3)
      (b := sCons (sAsg (e2 add (e2 ix (eV 0) (eC (.int 2))) (eC (.int 1))) (gSub (eV 0) (eC (.int 2))))
        (sAsg (e2 add (e2 mul (eV 2) (eC (.int 2147483587))) (eCall C f__law_hash 2 [] (lCons (e2 ix (eV 0) (eC (.int 1))) (lCons (e2 ix (eV 0) (eC (.int 2))) lNil)))) (gN 2)))
      (s := [some (.ref g), some (.int N), some (.int 0), none]) (m := m) (m1 := m) (xs := nums (List.range (1 + Builtin.Int.intBits (N : Int) / 30))) (gd := none)
      (fun i s m' => ∃ d : Int, ∃ z, s = [some (.ref g), some (.int N), some (.int d), z] ∧ (0 ≤ d ∧ d < 2147483587 ^ i) ∧ Keep (· = g) m m' ∧ m'.length = m.length ∧ ∃ c' : Int, m'[g]? = some (.lst [.int a, .int b, .int c']) ∧ 0 ≤ c' ∧ c' ≤ n + i)
      (by
        have h30 : small 30 = true := small_b (by omega) (by omega)
        have e1 : bits (1 + (Builtin.Int.intBits (N : Int) : Int) / 30) 60 = true := bits_of (k := 20) (by omega) (by decide)
        simp only [iRange1_ap, e2_ap, eC_ap, eBits_ap, eV_ap, List.getElem?_cons_zero, List.getElem?_cons_succ, bind_ok, fdiv, h30, and_true]
        rw [if_pos (by decide)]
        simp only [bind_ok, add_ap, e1, if_true]
        rw [show ((1 : Int) + (Builtin.Int.intBits (N : Int) : Int) / 30).toNat = 1 + Builtin.Int.intBits (N : Int) / 30 by omega, upto_nums])
      ⟨0, none, rfl, by simp, Keep.refl _ _, rfl, c, hm, hc.1, by omega⟩ (fun _ _ _ _ _ => rfl) (by
        rintro i x s m' hx ⟨d, z, rfl, hd, hkp, hl, c', hm', hc'⟩
        have hi : i < 3 := by
          have := (List.getElem?_eq_some_iff.mp hx).1
          simp [nums] at this
          omega
        refine ⟨[some (.ref g), some (.int N), some (.int d), some x], m', rfl, [some (.ref g), some (.int N), some (.int (d * 2147483587 + hsh b (c' + 1))), some x], m'.set g (.lst [.int a, .int b, .int (c' + 1)]), .inl ?_, _, _, rfl, ?_, hkp.set (.inl rfl), by rw [List.length_set]; exact hl, c' + 1, get_set hm', by omega, by omega⟩
        · have i2 : ix m' (.ref g) (.int 2) = .ok (.int c') m' := ix_lst (i := 2) hm' rfl
          have e3 : setIx m' (.ref g) (.int 2) (.int (c' + 1)) = .ok () (m'.set g (.lst [.int a, .int b, .int (c' + 1)])) := setIx_ok (i := 2) hm' (by simp)
          have hm2 : (m'.set g (.lst [.int a, .int b, .int (c' + 1)]))[g]? = some (.lst [.int a, .int b, .int (c' + 1)]) := get_set hm'
          have i3 := ix_lst (i := 1) (v := .int b) hm2 rfl
          have i4 := ix_lst (i := 2) (v := .int (c' + 1)) hm2 rfl
          have hq : (2147483587 : Int) ^ i ≤ 2147483587 ^ 3 := by
            have : i = 0 ∨ i = 1 ∨ i = 2 := by omega
            rcases this with e | e | e <;> (rw [e]; decide)
          have hsd : small d = true := small_b (by omega) (by
            have : (2147483587 : Int) ^ 3 < 2 ^ 200 := by decide
            omega)
          have hsq : small 2147483587 = true := small_b (by omega) (by omega)
          have eh := hh b (c' + 1) (m'.set g (.lst [.int a, .int b, .int (c' + 1)])) hb (by omega)
          have i3' : ix (m'.set g (.lst [.int a, .int b, .int (c' + 1)])) (.ref g) (.int 1) = .ok (.int b) (m'.set g (.lst [.int a, .int b, .int (c' + 1)])) := i3
          have i4' : ix (m'.set g (.lst [.int a, .int b, .int (c' + 1)])) (.ref g) (.int 2) = .ok (.int (c' + 1)) (m'.set g (.lst [.int a, .int b, .int (c' + 1)])) := i4
          simp [i2, e3, mul, hsd, hsq, i3', i4', eh]
        · have hs := hsh_lt b (c' + 1)
          rw [Int.pow_succ]
          omega)
    refine ⟨m', (d % N).toNat, ?_, by have := hmod d; omega, hkp, hl, a, b, c', hm', ha, hb, hc'.1, ?_⟩
    · refine callB_rt ?_
      unfold b__law_random
      refine (sCons_nx (s1 := [some (.ref g), some (.int N), none, none]) (m1 := m) ?_).trans ((sCons_nx (s1 := [some (.ref g), some (.int N), some (.int 0), none]) (m1 := m) rfl).trans ((sCons_nx e).trans ?_))
      · simp [i0, hp]
      · rw [Int.toNat_of_nonneg (hmod d).1]
        simp [md, h0]
    · have : (nums (List.range (1 + Builtin.Int.intBits (N : Int) / 30))).length ≤ 3 := by simp [nums]; omega
      omega
def SRandom (C : Calls) : Prop := ∀ (m : MH) (g n N : Nat), Gen m g n → 0 < N → N < 2 ^ 89 → n + 3 < 2 ^ 60 → ∃ m' r, C f__law_random [.ref g, .int N] m = .ok (.int (r : Nat)) m' ∧ r < N ∧ Keep (· = g) m m' ∧ m'.length = m.length ∧ Gen m' g (n + 3)
end
end LawP
set_option maxRecDepth 10000
/-! LChart: the laws' random charts. -/
namespace LawP
open PySem MP Ch
section
variable {C : Calls} {m : MH}
theorem upto_one (n : Nat) : upto 1 n = nums ((List.range n).map (· + 1)) := by
  rw [upto_eq]
  unfold nums
  rw [List.map_map]
  apply List.map_congr_left
  intro i _
  simp
  omega
theorem chart_snoc {ps : List Nat} (c : Chart ps) {p : Nat} (h : p ≤ ps.length) : Chart (ps ++ [p]) := by
  intro i q e
  rw [List.getElem?_append] at e
  split at e
  · exact c i q e
  · have : i - ps.length = 0 := by
      by_cases z : i - ps.length = 0
      · exact z
      · rw [List.getElem?_eq_none (by simp; omega)] at e
        cases e
    rw [this] at e
    simp at e
    omega
theorem chV_snoc (ps : List Nat) (p : Nat) : chV (ps ++ [p]) = chV ps ++ [.int p] := by simp [chV]
theorem nums_get {l : List Nat} {k : Nat} (h : k < l.length) : (nums l)[k]? = some (.int (l[k] : Nat)) := by
  unfold nums
  rw [List.getElem?_map, List.getElem?_eq_getElem h]
  rfl
theorem nums_len (l : List Nat) : (nums l).length = l.length := List.length_map _
theorem nums_pl (l : List Nat) : (nums l).all pl = true := by
  unfold nums
  rw [List.all_map]
  simp [pl, Function.comp_def]
theorem nums_inj {l k : List Nat} : nums l = nums k ↔ l = k := by
  unfold nums
  constructor
  · intro h
    refine (List.map_inj_right (f := fun (n : Nat) => MV.int n) ?_).mp h
    intro x y e
    have := MV.int.inj e
    omega
  · rintro rfl; rfl
theorem q_random_chart (hr : SRandom C) {g n M : Nat} (hg : Gen m g n) (h0 : 0 < M) (hM : M < 1000) (hn : n + 10 * M + 100 < 2 ^ 60) :
    ∃ m' ps, callB 7 (b__law_random_chart C) [.ref g, .int M] m = .ok (.tup (chV ps)) m' ∧ Chart ps ∧ ps.length < M ∧ Keep (· = g) m m' ∧ Gen m' g (n + 10 * M + 100) := by
  obtain ⟨m1, r, q1, hr1, k1, l1, g1⟩ := hr m g n M hg h0 (by omega) (by omega)
  obtain ⟨m2, kd, q2', hkd, k2, l2, g2⟩ := hr m1 g (n + 3) 5 g1 (by omega) (by omega) (by omega)
  have q2 : C f__law_random [.ref g, .int 5] m1 = .ok (.int kd) m2 := q2'
  have hbig : big = 1000000 := rfl
  have hlt : g < m.length := by obtain ⟨_, _, _, h, _⟩ := hg; exact get_lt h
  have k12 := k1.trans k2
  obtain ⟨s', m', e, ps, z1, z2, rfl, hps, hl, hk, hgen, ht⟩ := sFor_inv (it := iRange2 (eC (.int 1)) (eV 2)) (g := gN 5)
    (b := sCons (sAsg (eLst (lCons (e2 sub (eV 5) (eC (.int 1))) (lCons (eC (.int 0)) (lCons (eCall C f__law_random 2 [] (lCons (eV 0) (lCons (eV 5) lNil))) (lCons (eL max2 (lCons (eC (.int 0)) (lCons (e2 sub (e2 sub (eV 5) (eC (.int 1))) (eCall C f__law_random 2 [] (lCons (eV 0) (lCons (eC (.int 3)) lNil)))) lNil))) (lCons (e2 fdiv (eV 5) (eC (.int 2))) lNil)))))) (gN 6))
      (sDrop (eBm "list" append (eV 4) (lCons (eL min2 (lCons (e2 sub (eV 5) (eC (.int 1))) (lCons (e2 ix (eV 6) (eV 3)) lNil))) lNil))))
    (s := [some (.ref g), some (.int M), some (.int (1 + r)), some (.int kd), some (.ref m2.length), none, none]) (m := m2 ++ [.lst [.non]]) (m1 := m2 ++ [.lst [.non]]) (xs := nums ((List.range r).map (· + 1))) (gd := none)
    (fun i s m' => ∃ ps z1 z2, s = [some (.ref g), some (.int M), some (.int (1 + r)), some (.int kd), some (.ref m2.length), z1, z2] ∧ Chart ps ∧ ps.length = i ∧ Keep (· = g) m m' ∧ Gen m' g (n + 6 + 6 * i) ∧ m'[m2.length]? = some (.lst (chV ps)))
    (by
      have hb1 : bits 1 60 = true := by decide
      have hb2 : bits (1 + (r : Int)) 60 = true := bits_of (k := 20) (by omega) (by decide)
      simp [hb1, hb2, show (1 + (r : Int) - 1).toNat = r by omega, upto_one])
    ⟨[], none, none, rfl, fun i p h => by simp at h, rfl, k12.trans ((Ext.one _ _).keep _), g2.ext (Ext.one _ _), by simp [chV]⟩ (fun _ _ _ _ _ => rfl) (by
      rintro i x s m' hx ⟨ps, z1, z2, rfl, hps, hl, hk, hgen, ht⟩
      have hi : i < r := by
        have := (List.getElem?_eq_some_iff.mp hx).1
        simpa [nums] using this
      obtain rfl : x = .int (i + 1 : Nat) := by
        simp [nums, hi] at hx
        rw [← hx]
        rfl
      obtain ⟨m3, r1, f1, hr1, k3, l3, g3⟩ := hr m' g _ (i + 1) hgen (by omega) (by omega) (by omega)
      obtain ⟨m4, r2, f2', hr2, k4, l4, g4⟩ := hr m3 g _ 3 g3 (by omega) (by omega) (by omega)
      have f2 : C f__law_random [.ref g, .int 3] m3 = .ok (.int r2) m4 := f2'
      have hs2 : small 2 = true := small_b (by omega) (by omega)
      let up5 : List Nat := [i, 0, r1, i - r2, (i + 1) / 2]
      have eU : eLst (lCons (e2 sub (eV 5) (eC (.int 1))) (lCons (eC (.int 0)) (lCons (eCall C f__law_random 2 [] (lCons (eV 0) (lCons (eV 5) lNil))) (lCons (eL max2 (lCons (eC (.int 0)) (lCons (e2 sub (e2 sub (eV 5) (eC (.int 1))) (eCall C f__law_random 2 [] (lCons (eV 0) (lCons (eC (.int 3)) lNil)))) lNil))) (lCons (e2 fdiv (eV 5) (eC (.int 2))) lNil)))))
          [some (.ref g), some (.int M), some (.int (1 + r)), some (.int kd), some (.ref m2.length), some (.int (i + 1 : Nat)), z2] m' = .ok (.ref m4.length) (m4 ++ [.lst (nums up5)]) := by
        simp only [eLst_ap, lCons_ap, e2_ap, eV_ap, eC_ap, eCall_ap, eL_ap, lNil_ap, bind_ok, List.getElem?_cons_zero, List.getElem?_cons_succ, sub_ap, List.append_nil, List.length_cons, List.length_nil, if_true, f1, f2, max2_int, fdiv, hs2]
        rw [if_pos (by decide)]
        simp only [bind_ok, List.length_cons, List.length_nil]
        rw [if_pos (by omega)]
        simp only [new, nums, up5, List.map_cons, List.map_nil]
        rw [show ((i + 1 : Nat) : Int) - 1 = (i : Nat) by omega, show max 0 ((i : Int) - r2) = (i - r2 : Nat) by omega, show ((i + 1 : Nat) : Int) / 2 = ((i + 1) / 2 : Nat) by omega]
        rfl
      obtain ⟨y, hy⟩ : ∃ y : Nat, (nums up5)[kd]? = some (.int y) := ⟨_, nums_get (l := up5) (by simp [up5]; omega)⟩
      have gt : m2.length ≠ g := by omega
      have t4 : (m4 ++ [MO.lst (nums up5)])[m2.length]? = some (.lst (chV ps)) := (Ext.one _ _).get (k4.2 _ _ gt (k3.2 _ _ gt ht))
      have i6 : ix (m4 ++ [MO.lst (nums up5)]) (.ref m4.length) (.int kd) = .ok (.int y) (m4 ++ [MO.lst (nums up5)]) := ix_lst (get_new _ _) hy
      have hla : (chV ps).length < big := by rw [chV_len]; omega
      have t5 := get_set (o := .lst (chV ps ++ [.int (min i y : Nat)])) t4
      have k5 : Keep (· = g) m ((m4 ++ [MO.lst (nums up5)]).set m2.length (.lst (chV ps ++ [.int (min i y : Nat)]))) := (((hk.trans k3).trans k4).new _).set (.inr (by omega))
      refine ⟨_, _, rfl, [some (.ref g), some (.int M), some (.int (1 + r)), some (.int kd), some (.ref m2.length), some (.int (i + 1 : Nat)), some (.ref m4.length)], (m4 ++ [MO.lst (nums up5)]).set m2.length (.lst (chV ps ++ [.int (min i y : Nat)])), .inl ?_, ps ++ [min i y], _, _, rfl, chart_snoc hps (by omega), by simp [hl], k5, ?_, ?_⟩
      · refine (sCons_nx (sAsg_ok eU)).trans ?_
        simp [tyName_lst t4, i6, show ((i : Int) + 1 - 1) = i by omega, min2_nat, append_ok t4 hla]
      · exact ((g4.ext (Ext.one _ _)).keep ((Keep.refl (· = m2.length) _).set (.inl rfl)) (Ne.symm gt)).mono (by omega)
      · rw [chV_snoc]; exact t5)
  refine ⟨m', ps, ?_, hps, ?_, hk, hgen.mono ?_⟩
  · refine callB_rt ?_
    unfold b__law_random_chart
    have w1 : sAsg (e2 add (eC (.int 1)) (eCall C f__law_random 2 [] (lCons (eV 0) (lCons (eV 1) lNil)))) (gN 2) [some (.ref g), some (.int M), none, none, none, none, none] m = .ok (.nx [some (.ref g), some (.int M), some (.int (1 + r)), none, none, none, none]) m1 := by
      simp [q1]
    have w2 : sAsg (eCall C f__law_random 2 [] (lCons (eV 0) (lCons (eC (.int 5)) lNil))) (gN 3) [some (.ref g), some (.int M), some (.int (1 + r)), none, none, none, none] m1 = .ok (.nx [some (.ref g), some (.int M), some (.int (1 + r)), some (.int kd), none, none, none]) m2 := by
      simp [q2]
    refine (sCons_nx w1).trans ((sCons_nx w2).trans ((sCons_nx (s1 := [some (.ref g), some (.int M), some (.int (1 + r)), some (.int kd), some (.ref m2.length), none, none]) (m1 := m2 ++ [.lst [.non]]) ?_).trans ((sCons_nx e).trans ?_)))
    · simp [new, hbig]
    · simp [toTup, seqOf, lstOf, ht]
  · rw [hl]; simp [nums]; omega
  · simp [nums]; omega
def SRandomChart (C : Calls) : Prop := ∀ (m : MH) (g n M : Nat), Gen m g n → 0 < M → M < 1000 → n + 10 * M + 100 < 2 ^ 60 → ∃ m' ps, C f__law_random_chart [.ref g, .int M] m = .ok (.tup (chV ps)) m' ∧ Chart ps ∧ ps.length < M ∧ Keep (· = g) m m' ∧ Gen m' g (n + 10 * M + 100)
end
end LawP
set_option maxRecDepth 10000
/-! K03Law: what the law's own defs give. -/
namespace LawP
open PySem MP Ch
section
variable {C : Calls} {m : MH}
theorem q_way {ps : List Nat} (c : Chart ps) (hl : ps.length < 1000) {k : Nat} (hk : k < ps.length + 1) :
    ∃ m' p, callB 3 (b__law_way C) [.tup (chV ps), .int k] m = .ok (.ref p) m' ∧ Ext m m' ∧ m.length ≤ p ∧ m'[p]? = some (.lst (nums (path ps k))) := by
  have hbig : big = 1000000 := rfl
  obtain ⟨s', m', e, p, rfl, hx, hp, hg⟩ := sWhile_inv (c := tV (e2 isNotOp (e2 ix (eV 0) (e2 ix (eV 2) (eC (.int 0)))) (eC .non))) (b := sAsg (e2 add (eLst (lCons (e2 ix (eV 0) (e2 ix (eV 2) (eC (.int 0)))) lNil)) (eV 2)) (gN 2))
    (s := [some (.tup (chV ps)), some (.int k), some (.ref m.length)]) (m := m ++ [.lst [.int k]])
    (fun s m' => ∃ p x l, s = [some (.tup (chV ps)), some (.int k), some (.ref p)] ∧ Ext m m' ∧ m.length ≤ p ∧ m'[p]? = some (.lst (nums (x :: l))) ∧ path ps x ++ l = path ps k ∧ x < ps.length + 1)
    (fun s m' => match s[2]? with
      | some (some (MV.ref p)) => (match m'[p]? with
        | some (MO.lst (MV.int i :: _)) => i.toNat
        | _ => 0)
      | _ => 0)
    (fun s m' => ∃ p, s = [some (.tup (chV ps)), some (.int k), some (.ref p)] ∧ Ext m m' ∧ m.length ≤ p ∧ m'[p]? = some (.lst (nums (path ps k))))
    ⟨m.length, k, [], rfl, Ext.one _ _, Nat.le_refl _, by simp [nums], by simp, hk⟩ (by simp [loops]; omega) (by
      rintro s m' ⟨p, x, l, rfl, hE, hp, hg, hpath, hx⟩
      have i0 : ix m' (.ref p) (.int 0) = .ok (.int x) m' := ix_lst (i := 0) hg rfl
      by_cases h0 : x = 0
      · subst h0
        have i1 : ix m' (.tup (chV ps)) (.int ((0 : Nat) : Int)) = .ok .non m' := ix_tup (i := 0) (by simp [chV])
        refine ⟨false, m', ?_, fun _ => ⟨p, rfl, hE, hp, ?_⟩, fun h => absurd h (by decide)⟩
        · simp [i0]
          have i1' : ix m' (.tup (chV ps)) (.int 0) = .ok .non m' := i1
          simp [i1']
        · rw [← hpath, path_zero]
          exact hg
      · have i1 : ix m' (.tup (chV ps)) (.int x) = .ok (.int (up ps x : Nat)) m' := ix_tup (chV_up c hx h0)
        refine ⟨true, m', ?_, fun h => absurd h (by decide), fun _ => ?_⟩
        · simp [i0, i1]
        · have hu := up_lt ps h0
          have hlen : l.length + 1 ≤ 2 * 100000 := by
            have h1 := congrArg List.length hpath
            have h2 := anc_length ps k
            simp [path] at h1
            omega
          have g2 : (m' ++ [MO.lst [MV.int (up ps x : Nat)]])[p]? = some (.lst (nums (x :: l))) := (Ext.one _ _).get hg
          have ea : add (m' ++ [MO.lst [MV.int (up ps x : Nat)]]) (.ref m'.length) (.ref p) = .ok (.ref (m'.length + 1)) ((m' ++ [MO.lst [MV.int (up ps x : Nat)]]) ++ [.lst (nums (up ps x :: x :: l))]) := by
            simp only [add, lstOf_ok (get_new _ _), lstOf_ok g2]
            rw [if_pos (by simp [nums]; omega)]
            simp [new, nums]
          refine ⟨[some (.tup (chV ps)), some (.int k), some (.ref (m'.length + 1))], (m' ++ [MO.lst [MV.int (up ps x : Nat)]]) ++ [.lst (nums (up ps x :: x :: l))], .inl ?_, ⟨m'.length + 1, up ps x, x :: l, rfl, (hE.trans (Ext.one _ _)).trans (Ext.one _ _), by have := hE.len; omega, ?_, ?_, by omega⟩, ?_⟩
          · simp only [sAsg_ap, e2_ap, eLst_ap, lCons_ap, lNil_ap, eV_ap, eC_ap, bind_ok, List.getElem?_cons_zero, List.getElem?_cons_succ, i0, i1, List.length_cons, List.length_nil]
            rw [if_pos (by omega)]
            simp only [new, bind_ok, ea, gN_ap]
            rfl
          · rw [List.getElem?_append_right (by simp)]
            simp
          · rw [← hpath, path_pos ps h0]
            simp
          · have g3 : (m' ++ [MO.lst [MV.int (up ps x : Nat)]] ++ [MO.lst (nums (up ps x :: x :: l))])[m'.length + 1]? = some (MO.lst (nums (up ps x :: x :: l))) := by
              rw [List.getElem?_append_right (by simp)]
              simp
            simp only [List.getElem?_cons_zero, List.getElem?_cons_succ, g3, hg, nums, List.map_cons]
            simpa using hu)
  refine ⟨m', p, callB_rt ?_, hx, hp, hg⟩
  unfold b__law_way
  refine (sCons_nx (s1 := [some (.tup (chV ps)), some (.int k), some (.ref m.length)]) (m1 := m ++ [.lst [.int k]]) ?_).trans ((sCons_nx e).trans ?_)
  · simp [new, hbig]
  · simp
def SWay (C : Calls) : Prop := ∀ ps m (k : Nat), Chart ps → ps.length < 1000 → k < ps.length + 1 → ∃ m' p, C f__law_way [.tup (chV ps), .int k] m = .ok (.ref p) m' ∧ Ext m m' ∧ m.length ≤ p ∧ m'[p]? = some (.lst (nums (path ps k)))
theorem nums_flat (l : List Nat) : (nums l).all flat = true := all_pl_flat (nums_pl l)
theorem vEq_nums (k : Nat) (l : List Nat) : (nums l).any (fun x => vEq x (.int k)) = decide (k ∈ l) := by
  unfold nums
  rw [List.any_map, Bool.eq_iff_iff]
  simp [vEq, Function.comp_def]
  constructor
  · rintro ⟨x, h, e⟩
    obtain rfl : x = k := by omega
    exact h
  · exact fun h => ⟨k, h, rfl⟩
theorem inn_nums {p k : Nat} {l : List Nat} (h : m[p]? = some (.lst (nums l))) : inn m (.int k) (.ref p) = .ok (.bl (decide (k ∈ l))) m := by
  simp only [inn, seqOf, lstOf_ok h, nums_flat, vEq_nums]
  simp [flat]
theorem isBelow_path (ps : List Nat) (x k : Nat) : isBelow ps x k = decide (k ∈ path ps x) := by
  unfold isBelow
  simp [mem_path]
theorem q_post_right (hw : SWay C) (h1 : SPathTo C) (h2 : SPostsBelow C) {ps : List Nat} (c : Chart ps) (hl : ps.length < 1000) {k : Nat} (hk : k < ps.length + 1) :
    ∃ m', callB 7 (b__law_post_right C) [.tup (chV ps), .int k] m = .ok (.bl true) m' ∧ Ext m m' := by
  have hbig : big = 1000000 := rfl
  have hb : bits ((ps.length + 1 : Nat) : Int) 60 = true := bits_of (k := 20) (by omega) (by decide)
  obtain ⟨m1, q1, x1, hp, g⟩ := eLc_pure (it := iRange1 (eL len (lCons (eV 0) lNil))) (g := gN 4) (c := tV (e2 inn (eV 1) (eCall C f__law_way 2 [] (lCons (eV 0) (lCons (eV 4) lNil))))) (a := eV 4) (vs := [4])
    (s := [some (.tup (chV ps)), some (.int k), none, none, none, none, none]) (m := m) (m1 := m) (xs := nums (List.range (ps.length + 1))) (gd := none)
    (fun v => match v with | .int i => isBelow ps i.toNat k | _ => false) (fun v => v)
    (by
      simp only [iRange1_ap, eL_ap, lCons_ap, eV_ap, lNil_ap, List.getElem?_cons_zero, bind_ok, len, chV_len]
      rw [if_pos hb]
      simp [upto_nums]) (Ext.refl _) (by simp [nums]; omega) (fun _ _ => rfl)
    (by
      intro x m2 hx he
      simp only [nums, List.mem_map, List.mem_range] at hx
      obtain ⟨i, hi, rfl⟩ := hx
      obtain ⟨m3, p, q, x3, hp3, g3⟩ := hw ps m2 i c hl hi
      refine ⟨[some (.tup (chV ps)), some (.int k), none, none, some (.int i), none, none], by simp [wipe], m3, ?_, x3, fun _ => ⟨m3, by simp, Ext.refl _⟩⟩
      simp [q, inn_nums g3, isBelow_path])
  have g' : m1[m.length]? = some (.lst (nums (under ps k))) := by
    rw [g]
    simp only [nums, under, List.filter_map, List.map_id', Function.comp_def, Int.toNat_natCast]
  obtain ⟨s', m2, w, ⟨z1, z2, z3, rfl⟩, x2⟩ := sFor_inv (it := iRange1 (eC (.int 2))) (g := gN 3)
    (b := sCons (sPar 5 6 (eCall C f_path_to 2 [] (lCons (eV 0) (lCons (eV 1) lNil))) (eCall C f_posts_below 2 [] (lCons (eV 0) (lCons (eV 1) lNil))))
      (sCons (sIf (tOr (tV (e2 ne (eV 5) (eCall C f__law_way 2 [] (lCons (eV 0) (lCons (eV 1) lNil))))) (tV (e2 ne (eV 6) (eV 2)))) (sRet (eC (.bl false))) sNil)
      (sCons (sDrop (eBm "list" append (eV 5) (lCons (eC (.int 0)) lNil)))
      (sDrop (eBm "list" append (eV 6) (lCons (eC (.int 0)) lNil))))))
    (s := [some (.tup (chV ps)), some (.int k), some (.ref m.length), none, none, none, none]) (m := m1) (m1 := m1) (xs := upto 0 2) (gd := none)
    (fun i s m' => (∃ z1 z2 z3, s = [some (.tup (chV ps)), some (.int k), some (.ref m.length), z1, none, z2, z3]) ∧ Ext m1 m')
    (by
      simp only [iRange1_ap, eC_ap, bind_ok]
      rw [if_pos (by decide)]
      rfl) ⟨⟨none, none, none, rfl⟩, Ext.refl _⟩ (fun _ _ _ _ _ => rfl) (by
      rintro i x s m2 hx ⟨⟨z1, z2, z3, rfl⟩, he⟩
      obtain ⟨m3, p, q3, x3, l3, g3⟩ := h1 ps m2 k c (by omega) hk
      obtain ⟨m4, r, q4, x4, l4, g4⟩ := h2 ps m3 k c (by omega) hk
      obtain ⟨m5, t, q5, x5, l5, g5⟩ := hw ps m4 k c hl hk
      have hpl : p < m3.length := get_lt g3
      have n1 : ne m5 (.ref p) (.ref t) = .ok (.bl false) m5 := by
        rw [ne_lst ((x4.trans x5).get g3) g5 (nums_pl _) (nums_pl _)]
        simp
      have n2 : ne m5 (.ref r) (.ref m.length) = .ok (.bl false) m5 := by
        rw [ne_lst (x5.get g4) ((((he.trans x3).trans x4).trans x5).get g') (nums_pl _) (nums_pl _)]
        simp
      have hpb : (nums (path ps k)).length < big := by
        have := anc_length ps k
        simp [nums, path]
        omega
      have hub : (nums (under ps k)).length < big := by
        have := List.length_filter_le (fun x => isBelow ps x k) (List.range (ps.length + 1))
        simp [nums, under] at this ⊢
        omega
      have e5 : m5[p]? = some (.lst (nums (path ps k))) := (x4.trans x5).get g3
      have hrp : r ≠ p := by omega
      have e6 : (m5.set p (.lst (nums (path ps k) ++ [.int 0])))[r]? = some (.lst (nums (under ps k))) := by
        rw [get_set_ne (Ne.symm hrp)]
        exact x5.get g4
      have hm1 := he.len
      have hm2 := x3.len
      refine ⟨_, _, rfl, [some (.tup (chV ps)), some (.int k), some (.ref m.length), some x, none, some (.ref p), some (.ref r)], _, .inl ?_, ⟨_, _, _, rfl⟩, (((((he.trans x3).trans x4).trans x5).set (i := p) (o := .lst (nums (path ps k) ++ [.int 0])) (by omega)).set (i := r) (o := .lst (nums (under ps k) ++ [.int 0])) (by omega))⟩
      simp [q3, q4, q5, n1, n2, tyName_lst e5, append_ok e5 hpb, tyName_lst e6, append_ok e6 hub])
  refine ⟨m2, callB_rt ?_, x1.trans x2⟩
  unfold b__law_post_right
  refine (sCons_nx (sAsg_ok q1)).trans ((sCons_nx w).trans ?_)
  simp
def SPostRight (C : Calls) : Prop := ∀ ps m (k : Nat), Chart ps → ps.length < 1000 → k < ps.length + 1 → ∃ m', C f__law_post_right [.tup (chV ps), .int k] m = .ok (.bl true) m' ∧ Ext m m'
theorem strOk_of (t : String) : PyData.strOk (PySem.Str.ofString t) = true := by
  rw [PySem.Str.ofString_eq_toList]
  simp only [PyData.strOk, List.all_toArray, List.all_map, List.all_eq_true, Function.comp_apply, decide_eq_true_eq]
  intro c _
  have := c.valid
  rcases this with h | h
  · have : c.toNat < 0xd800 := h
    omega
  · exact h.2
theorem eq_str {x y : Str} (hx : PyData.strOk x = true) (hy : PyData.strOk y = true) : eq m (.str x) (.str y) = .ok (.bl (decide (x = y))) m := by
  have h1 : toD m 20 (.str x) = some (.str x) := rfl
  have h2 : toD m 20 (.str y) = some (.str y) := rfl
  have h3 : ∀ z, PyData.strOk z = true → SeqAt.shaped (.str z) = true := fun z hz => by simp [SeqAt.shaped, PyData.canLay0, PyData.depth, hz]
  simp only [eq, dEq, h1, h2, h3 x hx, h3 y hy, PyData.eqv]
  simp
  rw [Bool.eq_iff_iff]
  simp
theorem q_pair_right (hw : SWay C) (h1 : SCommonPost C) {ps : List Nat} (c : Chart ps) (hl : ps.length < 1000) {x y : Nat} (hx : x < ps.length + 1) (hy : y < ps.length + 1) :
    ∃ m', callB 5 (b__law_pair_right C) [.tup (chV ps), .int x, .int y] m = .ok (.bl true) m' ∧ Ext m m' := by
  have hbig : big = 1000000 := rfl
  obtain ⟨m1, p, q1, x1, l1, g1⟩ := hw ps m x c hl hx
  obtain ⟨m2, q2, x2, hp, g⟩ := eLc_pure (it := iSeq (eCall C f__law_way 2 [] (lCons (eV 0) (lCons (eV 1) lNil)))) (g := gN 4) (c := tV (e2 inn (eV 4) (eCall C f__law_way 2 [] (lCons (eV 0) (lCons (eV 2) lNil))))) (a := eV 4) (vs := [4])
    (s := [some (.tup (chV ps)), some (.int x), some (.int y), none, none]) (m := m) (m1 := m1) (xs := nums (path ps x)) (gd := some (p, nums (path ps x)))
    (fun v => match v with | .int i => decide (i.toNat ∈ path ps y) | _ => false) (fun v => v)
    (by simp [q1, lstOf_ok g1]) x1 (by
      have := anc_length ps x
      simp [nums, path]
      omega) (fun m2 he => by simp [Guard.ok, he.get g1])
    (by
      intro v m2 hv he
      simp only [nums, List.mem_map] at hv
      obtain ⟨i, hi, rfl⟩ := hv
      obtain ⟨m3, p, q, x3, hp3, g3⟩ := hw ps m2 y c hl hy
      refine ⟨[some (.tup (chV ps)), some (.int x), some (.int y), none, some (.int i)], by simp [wipe], m3, ?_, x3, fun _ => ⟨m3, by simp, Ext.refl _⟩⟩
      simp [q, inn_nums g3])
  obtain ⟨r, hr⟩ := shared_last ps x y
  have g' : m2[m1.length]? = some (.lst (nums r ++ [.int (com ps x y : Nat)])) := by
    rw [g]
    have : nums (r ++ [com ps x y]) = nums r ++ [.int (com ps x y : Nat)] := by simp [nums]
    rw [← this, ← hr]
    simp only [nums, List.filter_map, List.map_id', Function.comp_def, Int.toNat_natCast]
  obtain ⟨m3, q3, x3⟩ := h1 ps m2 x y c (by omega) hx hy
  obtain ⟨m4, q4, x4⟩ := h1 ps m3 y x c (by omega) hy hx
  have i3 := ix_last (x3.get g')
  have i4 := ix_last ((x3.trans x4).get g')
  have hb : bits ((com ps x y : Nat) : Int) 1000 = true := bits_of (k := 20) (by
    have := com_lt (ps := ps) (b := y) hx
    omega) (by decide)
  refine ⟨m4, callB_rt ?_, (x2.trans x3).trans x4⟩
  unfold b__law_pair_right
  refine (sCons_nx (sAsg_ok q2)).trans ?_
  simp [q3, q4, i3, i4, toStr, hb, eq_str (strOk_of _) (strOk_of _), MP.eq_int, com_symm ps y x]
def SPairRight (C : Calls) : Prop := ∀ ps m (x y : Nat), Chart ps → ps.length < 1000 → x < ps.length + 1 → y < ps.length + 1 → ∃ m', C f__law_pair_right [.tup (chV ps), .int x, .int y] m = .ok (.bl true) m' ∧ Ext m m'
/-- tuple([random(generator, place) for place in range(1, 40)]) -/
theorem wide_chart (hr : SRandom C) {s : MP.Env} {g n : Nat} {g0 : s[2]? = some (some (.ref g))} (hs : s.length = 9) (hg : Gen m g n) (hn : n + 300 < 2 ^ 60) :
    ∃ m' q ps, eLc (iRange2 (eC (.int 1)) (eC (.int 40))) (gN 8) tYes (eCall C f__law_random 2 [] (lCons (eV 2) (lCons (eV 8) lNil))) [8] s m = .ok (.ref q) m' ∧ m'[q]? = some (.lst (nums ps)) ∧ Chart ps ∧ ps.length = 39 ∧ Gen m' g (n + 300) := by
  have hbig : big = 1000000 := rfl
  have hlt : g < m.length := by obtain ⟨_, _, _, h, _⟩ := hg; exact get_lt h
  obtain ⟨acc, m', q, ps, rfl, hps, hl, hgen, ht⟩ := eLc_inv (it := iRange2 (eC (.int 1)) (eC (.int 40))) (g := gN 8) (c := tYes) (a := eCall C f__law_random 2 [] (lCons (eV 2) (lCons (eV 8) lNil))) (vs := [8])
    (s := s) (m := m) (m1 := m) (xs := nums ((List.range 39).map (· + 1))) (gd := none)
    (fun i acc m' => ∃ ps, acc = nums ps ∧ Chart ps ∧ ps.length = i ∧ Gen m' g (n + 3 * i) ∧ m'[m.length]? = some (.lst acc))
    (by
      simp only [iRange2_ap, eC_ap, bind_ok]
      rw [if_pos (by decide), show ((40 : Int) - 1).toNat = 39 by decide, upto_one])
    (by simp [nums]; omega) ⟨[], rfl, fun i p h => by simp at h, rfl, hg.ext (Ext.one _ _), by simp⟩ (fun _ _ _ _ _ => rfl)
    (by rintro i acc m' ⟨ps, rfl, hps, hl, hgen, ht⟩; exact ⟨ht, by simp [nums, hl]⟩)
    (by
      rintro i x acc m' hx ⟨ps, rfl, hps, hl, hgen, ht⟩
      have hi : i < 39 := by
        have := (List.getElem?_eq_some_iff.mp hx).1
        simpa [nums] using this
      obtain rfl : x = .int (i + 1 : Nat) := by
        rw [nums_get (by simpa using hi)] at hx
        simp at hx
        rw [← hx]
        rfl
      obtain ⟨m3, r1, f1, hr1, k3, l3, g3⟩ := hr m' g _ (i + 1) hgen (by omega) (by omega) (by omega)
      have gt : m.length ≠ g := by omega
      have t3 := k3.2 _ _ gt ht
      refine ⟨_, _, rfl, true, _, rfl, fun h => absurd h (by decide), fun _ => ⟨.int r1, m3, ?_, t3, ps ++ [r1], by simp [nums], chart_snoc hps (by omega), by simp [hl], ?_, get_set t3⟩⟩
      · have hw2 : (wipe s [8])[2]? = some (some (.ref g)) := by
          simp [wipe, g0]
        have hw3 : ((wipe s [8]).set 8 (some (.int (i + 1 : Nat))))[2]? = some (some (.ref g)) := by
          rw [List.getElem?_set_ne (by decide)]; exact hw2
        have hw4 : ((wipe s [8]).set 8 (some (.int (i + 1 : Nat))))[8]? = some (some (.int (i + 1 : Nat))) := by
          rw [List.getElem?_set_self]
          simp [wipe, hs]
        simp only [eCall_ap, lCons_ap, lNil_ap, eV_ap, hw3, hw4, bind_ok, List.append_nil, List.length_cons, List.length_nil, if_true, f1]
      · exact (g3.keep ((Keep.refl (· = m.length) _).set (.inl rfl)) (Ne.symm gt)).mono (by omega))
  refine ⟨m', m.length, ps, q, ht, hps, ?_, hgen.mono ?_⟩
  · rw [hl]; simp [nums]
  · simp [nums]
theorem q_law (hgen : SGenerator C) (hr : SRandom C) (hch : SRandomChart C) (hp : SPostRight C) (hq : SPairRight C) (ns : List Int) :
    ∃ m', callB 9 (b_law C) [.fro (ns.map .int)] m = .ok (.bl true) m' := by
  have hbig : big = 1000000 := rfl
  obtain ⟨s', m', e, -⟩ := sFor_inv (it := iRange1 (eC (.int 5))) (g := gN 1)
    (b := sCons (sAsg (eCall C f__law_generator 2 [] (lCons (eV 0) (lCons (eV 1) lNil))) (gN 2))
      (sCons (sAsg (eCall C f__law_random_chart 2 [] (lCons (eV 2) (lCons (eC (.int 9)) lNil))) (gN 3))
      (sCons (sIf (tV (e2 eq (eV 1) (eC (.int 4)))) (sAsg (e2 add (eTup (lCons (eC .non) lNil)) (eL toTup (lCons (eLc (iRange2 (eC (.int 1)) (eC (.int 40))) (gN 8) tYes (eCall C f__law_random 2 [] (lCons (eV 2) (lCons (eV 8) lNil))) [8]) lNil))) (gN 3)) sNil)
      (sCons (sAsg (eL len (lCons (eV 3) lNil)) (gN 4))
      (sCons (sIf (tV (e2 ne (eLc (iRange1 (eV 4)) (gN 8) (tNot (tV (eCall C f__law_post_right 2 [] (lCons (eV 3) (lCons (eV 8) lNil))))) (eV 8) [8]) (eLst lNil))) (sRet (eC (.bl false))) sNil)
      (sFor (iRange1 (eL min2 (lCons (e2 mul (eV 4) (eV 4)) (lCons (eC (.int 81)) lNil)))) (gN 5) (sCons (sPar 6 7 (e2 md (eL toInt (lCons (e2 fdiv (eV 5) (eV 4)) lNil)) (eV 4)) (e2 md (eL toInt (lCons (eV 5) lNil)) (eV 4)))
      (sCons (sIf (tV (e2 eq (eV 1) (eC (.int 4)))) (sPar 6 7 (eCall C f__law_random 2 [] (lCons (eV 2) (lCons (eV 4) lNil))) (eCall C f__law_random 2 [] (lCons (eV 2) (lCons (eV 4) lNil)))) sNil)
      (sIf (tNot (tV (eCall C f__law_pair_right 3 [] (lCons (eV 3) (lCons (eV 6) (lCons (eV 7) lNil)))))) (sRet (eC (.bl false))) sNil)))))))))
    (s := [some (.fro (ns.map .int)), none, none, none, none, none, none, none, none]) (m := m) (m1 := m) (xs := nums (List.range 5)) (gd := none)
    (fun i s m' => ∃ z1 z2 z3 z4 z5 z6 z7, s = [some (.fro (ns.map .int)), z1, z2, z3, z4, z5, z6, z7, none])
    (by
      simp only [iRange1_ap, eC_ap, bind_ok]
      rw [if_pos (by decide), show (5 : Int).toNat = 5 by decide, upto_nums]) ⟨_, _, _, _, _, _, _, rfl⟩ (fun _ _ _ _ _ => rfl) (by
      rintro i x s m0 hx ⟨z1, z2, z3, z4, z5, z6, z7, rfl⟩
      have hi : i < 5 := by
        have := (List.getElem?_eq_some_iff.mp hx).1
        simpa [nums] using this
      obtain rfl : x = .int i := by
        rw [nums_get (by simpa using hi)] at hx
        simp at hx
        exact hx.symm
      refine ⟨_, _, rfl, ?_⟩
      -- the generator, the chart
      obtain ⟨m1, q1, x1, g1⟩ := hgen ns i m0 (by omega)
      obtain ⟨m2, ps, q2', c2, l2, k2, g2⟩ := hch m1 m0.length _ 9 g1 (by omega) (by omega) (by omega)
      have q2 : C f__law_random_chart [.ref m0.length, .int 9] m1 = .ok (.tup (chV ps)) m2 := q2'
      generalize hg : m0.length = g at *
      -- the fifth chart
      obtain ⟨m3, ps, q3, c3, l3, g3⟩ : ∃ m3 qs, sIf (tV (e2 eq (eV 1) (eC (.int 4)))) (sAsg (e2 add (eTup (lCons (eC .non) lNil)) (eL toTup (lCons (eLc (iRange2 (eC (.int 1)) (eC (.int 40))) (gN 8) tYes (eCall C f__law_random 2 [] (lCons (eV 2) (lCons (eV 8) lNil))) [8]) lNil))) (gN 3)) sNil
          [some (.fro (ns.map .int)), some (.int i), some (.ref g), some (.tup (chV ps)), z4, z5, z6, z7, none] m2 = .ok (.nx [some (.fro (ns.map .int)), some (.int i), some (.ref g), some (.tup (chV qs)), z4, z5, z6, z7, none]) m3 ∧ Chart qs ∧ qs.length < 40 ∧ Gen m3 g 10000 := by
        by_cases h4 : i = 4
        · obtain ⟨m3, q, qs, w1, w2, w3, w4, w5⟩ := wide_chart (C := C) (m := m2) (s := [some (.fro (ns.map .int)), some (.int i), some (.ref g), some (.tup (chV ps)), z4, z5, z6, z7, none]) (g0 := rfl) hr rfl g2 (by omega)
          have hla : 1 + (nums qs).length ≤ big := by simp [nums]; omega
          refine ⟨m3, qs, ?_, w3, by omega, w5.mono (by omega)⟩
          refine (sIf_t (m1 := m2) ?_).trans ?_
          · simp [MP.eq_int, h4]
          · refine sAsg_ok ?_
            simp only [e2_ap, eTup_ap, lCons_ap, lNil_ap, eC_ap, bind_ok, eL_ap, List.length_cons, List.length_nil]
            rw [if_pos (by omega), bind_ok]
            have w1' : (eLc (iRange2 (eC (.int 1)) (eC (.int 40))) (gN 8) tYes (eCall C f__law_random 2 [] (lCons (eV 2) (lCons (eV 8) lNil))) [8]) [some (.fro (ns.map .int)), some (.int i), some (.ref g), some (.tup (chV ps)), z4, z5, z6, z7, none] m2 = .ok (.ref q) m3 := w1
            rw [w1']
            simp only [bind_ok, toTup, seqOf, lstOf_ok w2, add, List.length_cons, List.length_nil]
            rw [if_pos (by omega)]
            rfl
        · refine ⟨m2, ps, ?_, c2, by omega, g2.mono (by omega)⟩
          refine (sIf_f (m1 := m2) ?_).trans rfl
          simp [MP.eq_int]
          omega
      -- all posts
      have hb : bits ((ps.length + 1 : Nat) : Int) 60 = true := bits_of (k := 20) (by omega) (by decide)
      obtain ⟨m4, q4, x4, hp4, g4⟩ := eLc_pure (it := iRange1 (eV 4)) (g := gN 8) (c := tNot (tV (eCall C f__law_post_right 2 [] (lCons (eV 3) (lCons (eV 8) lNil))))) (a := eV 8) (vs := [8])
        (s := [some (.fro (ns.map .int)), some (.int i), some (.ref g), some (.tup (chV ps)), some (.int (ps.length + 1 : Nat)), z5, z6, z7, none]) (m := m3) (m1 := m3) (xs := nums (List.range (ps.length + 1))) (gd := none)
        (fun _ => false) (fun v => v)
        (by
          simp only [iRange1_ap, eV_ap, List.getElem?_cons_zero, List.getElem?_cons_succ, bind_ok]
          rw [if_pos hb]
          simp [upto_nums]) (Ext.refl _) (by simp [nums]; omega) (fun _ _ => rfl)
        (by
          intro v mm hv he
          simp only [nums, List.mem_map, List.mem_range] at hv
          obtain ⟨j, hj, rfl⟩ := hv
          obtain ⟨m3, q, x3⟩ := hp ps mm j c3 (by omega) hj
          refine ⟨[some (.fro (ns.map .int)), some (.int i), some (.ref g), some (.tup (chV ps)), some (.int (ps.length + 1 : Nat)), z5, z6, z7, some (.int j)], by simp [wipe], m3, ?_, x3, fun h => absurd h (by decide)⟩
          simp [q])
      have hnil : (nums (List.range (ps.length + 1))).filter (fun _ => false) = [] := by simp
      rw [hnil] at g4
      have g5 : (m4 ++ [MO.lst []])[m3.length]? = some (.lst []) := (Ext.one _ _).get g4
      have n5 : ne (m4 ++ [MO.lst []]) (.ref m3.length) (.ref m4.length) = .ok (.bl false) (m4 ++ [MO.lst []]) := by
        rw [ne_lst g5 (get_new _ _) rfl rfl]
        simp
      have gg4 : Gen (m4 ++ [MO.lst []]) g 10000 := (g3.ext x4).ext (Ext.one _ _)
      -- all pairs
      have hmin : ∃ k : Nat, min ((((ps.length + 1 : Nat) : Int)) * ((ps.length + 1 : Nat) : Int)) 81 = (k : Nat) ∧ k ≤ 81 := by
        refine ⟨(min ((((ps.length + 1 : Nat) : Int)) * ((ps.length + 1 : Nat) : Int)) 81).toNat, ?_, by omega⟩
        have : (0 : Int) ≤ (((ps.length + 1 : Nat) : Int)) * ((ps.length + 1 : Nat) : Int) := Int.mul_nonneg (by omega) (by omega)
        omega
      obtain ⟨K, hK, hK81⟩ := hmin
      have hsl : small (((ps.length + 1 : Nat) : Int)) = true := small_b (by omega) (by omega)
      obtain ⟨s5, m5, w5, ⟨y1, y2, y3, rfl⟩, -⟩ := sFor_inv (it := iRange1 (eL min2 (lCons (e2 mul (eV 4) (eV 4)) (lCons (eC (.int 81)) lNil)))) (g := gN 5)
        (b := sCons (sPar 6 7 (e2 md (eL toInt (lCons (e2 fdiv (eV 5) (eV 4)) lNil)) (eV 4)) (e2 md (eL toInt (lCons (eV 5) lNil)) (eV 4)))
          (sCons (sIf (tV (e2 eq (eV 1) (eC (.int 4)))) (sPar 6 7 (eCall C f__law_random 2 [] (lCons (eV 2) (lCons (eV 4) lNil))) (eCall C f__law_random 2 [] (lCons (eV 2) (lCons (eV 4) lNil)))) sNil)
          (sIf (tNot (tV (eCall C f__law_pair_right 3 [] (lCons (eV 3) (lCons (eV 6) (lCons (eV 7) lNil)))))) (sRet (eC (.bl false))) sNil)))
        (s := [some (.fro (ns.map .int)), some (.int i), some (.ref g), some (.tup (chV ps)), some (.int (ps.length + 1 : Nat)), z5, z6, z7, none]) (m := m4 ++ [MO.lst []]) (m1 := m4 ++ [MO.lst []]) (xs := nums (List.range K)) (gd := none)
        (fun t s m' => (∃ y1 y2 y3, s = [some (.fro (ns.map .int)), some (.int i), some (.ref g), some (.tup (chV ps)), some (.int (ps.length + 1 : Nat)), y1, y2, y3, none]) ∧ Gen m' g (10000 + 6 * t))
        (by
          simp only [iRange1_ap, eL_ap, lCons_ap, lNil_ap, e2_ap, eV_ap, eC_ap, List.getElem?_cons_zero, List.getElem?_cons_succ, bind_ok, mul, hsl, Bool.and_self, if_true, min2_int, hK]
          rw [if_pos (bits_of (k := 20) (by omega) (by decide))]
          simp [upto_nums])
        ⟨⟨_, _, _, rfl⟩, gg4⟩ (fun _ _ _ _ _ => rfl) (by
          rintro t v s mm hv ⟨⟨y1, y2, y3, rfl⟩, hgen⟩
          have ht : t < K := by
            have := (List.getElem?_eq_some_iff.mp hv).1
            simpa [nums] using this
          obtain rfl : v = .int t := by
            rw [nums_get (by simpa using ht)] at hv
            simp at hv
            exact hv.symm
          refine ⟨_, _, rfl, ?_⟩
          have hpos : (0 : Int) < ((ps.length + 1 : Nat) : Int) := by omega
          have ew : sPar 6 7 (e2 md (eL toInt (lCons (e2 fdiv (eV 5) (eV 4)) lNil)) (eV 4)) (e2 md (eL toInt (lCons (eV 5) lNil)) (eV 4))
              [some (.fro (ns.map .int)), some (.int i), some (.ref g), some (.tup (chV ps)), some (.int (ps.length + 1 : Nat)), some (.int t), y2, y3, none] mm =
              .ok (.nx [some (.fro (ns.map .int)), some (.int i), some (.ref g), some (.tup (chV ps)), some (.int (ps.length + 1 : Nat)), some (.int t), some (.int (t / (ps.length + 1) % (ps.length + 1) : Nat)), some (.int (t % (ps.length + 1) : Nat)), none]) mm := by
            simp only [sPar_ap, e2_ap, eL_ap, lCons_ap, lNil_ap, eV_ap, List.getElem?_cons_zero, List.getElem?_cons_succ, bind_ok, fdiv, hsl, hpos, and_self, if_true, toInt_ap, md, ← Int.natCast_ediv, ← Int.natCast_emod]
            rfl
          obtain ⟨m6, u, v, gn, w6, hu, hv2, gk⟩ : ∃ m6 u v gn, sIf (tV (e2 eq (eV 1) (eC (.int 4)))) (sPar 6 7 (eCall C f__law_random 2 [] (lCons (eV 2) (lCons (eV 4) lNil))) (eCall C f__law_random 2 [] (lCons (eV 2) (lCons (eV 4) lNil)))) sNil
              [some (.fro (ns.map .int)), some (.int i), some (.ref g), some (.tup (chV ps)), some (.int (ps.length + 1 : Nat)), some (.int t), some (.int (t / (ps.length + 1) % (ps.length + 1) : Nat)), some (.int (t % (ps.length + 1) : Nat)), none] mm =
              .ok (.nx [some (.fro (ns.map .int)), some (.int i), some (.ref g), some (.tup (chV ps)), some (.int (ps.length + 1 : Nat)), some (.int t), some (.int (u : Nat)), some (.int (v : Nat)), none]) m6 ∧ u < ps.length + 1 ∧ v < ps.length + 1 ∧ (Gen m6 g gn ∧ gn = 10000 + 6 * (t + 1)) := by
            by_cases h4 : i = 4
            · obtain ⟨m6, u, w6, hu, k6, l6, g6⟩ := hr mm g _ (ps.length + 1) hgen (by omega) (by omega) (by omega)
              obtain ⟨m7, v, w7, hv, k7, l7, g7⟩ := hr m6 g _ (ps.length + 1) g6 (by omega) (by omega) (by omega)
              refine ⟨m7, u, v, _, ?_, hu, hv, g7.mono (n' := 10000 + 6 * (t + 1)) (by omega), rfl⟩
              refine (sIf_t (m1 := mm) ?_).trans ?_
              · simp [MP.eq_int, h4]
              · simp only [sPar_ap, eCall_ap, lCons_ap, lNil_ap, eV_ap, List.getElem?_cons_zero, List.getElem?_cons_succ, bind_ok, List.append_nil, List.length_cons, List.length_nil, if_true, w6, w7]
                rfl
            · refine ⟨mm, t / (ps.length + 1) % (ps.length + 1), t % (ps.length + 1), _, ?_, Nat.mod_lt _ (by omega), Nat.mod_lt _ (by omega), hgen.mono (n' := 10000 + 6 * (t + 1)) (by omega), rfl⟩
              refine (sIf_f (m1 := mm) ?_).trans rfl
              simp [MP.eq_int]
              omega
          obtain ⟨m8, w8, x8⟩ := hq ps m6 u v c3 (by omega) hu hv2
          refine ⟨[some (.fro (ns.map .int)), some (.int i), some (.ref g), some (.tup (chV ps)), some (.int (ps.length + 1 : Nat)), some (.int t), some (.int (u : Nat)), some (.int (v : Nat)), none], m8, .inl ?_, ⟨_, _, _, rfl⟩, ?_⟩
          · refine (sCons_nx ew).trans ((sCons_nx w6).trans ?_)
            simp only [sIf_ap, tNot_ap, tV_ap, eCall_ap, lCons_ap, lNil_ap, eV_ap, List.getElem?_cons_zero, List.getElem?_cons_succ, bind_ok, List.append_nil, List.length_cons, List.length_nil, if_true, w8]
            rfl
          · rw [← gk.2]; exact gk.1.ext x8)
      refine ⟨[some (.fro (ns.map .int)), some (.int i), some (.ref g), some (.tup (chV ps)), some (.int (ps.length + 1 : Nat)), y1, y2, y3, none], m5, .inl ?_, _, _, _, _, _, _, _, rfl⟩
      refine (sCons_nx (s1 := [some (.fro (ns.map .int)), some (.int i), some (.ref g), z3, z4, z5, z6, z7, none]) (m1 := m1) ?_).trans ((sCons_nx (sAsg_ok (v := .tup (chV _)) (m1 := m2) ?_)).trans ((sCons_nx q3).trans ((sCons_nx (sAsg_ok (v := .int (ps.length + 1 : Nat)) (m1 := m3) ?_)).trans ((sCons_nx (s1 := [some (.fro (ns.map .int)), some (.int i), some (.ref g), some (.tup (chV ps)), some (.int (ps.length + 1 : Nat)), z5, z6, z7, none]) (m1 := m4 ++ [MO.lst []]) ?_).trans w5))))
      · simp [q1]
      · simp [q2]
      · simp [len, chV_len]
      · refine (sIf_f (m1 := m4 ++ [MO.lst []]) ?_).trans rfl
        simp only [tV_ap, e2_ap, bind_ok, List.set_cons_succ, List.set_cons_zero]
        rw [q4]
        simp [new, n5])
  refine ⟨m', callB_rt ?_⟩
  unfold b_law
  refine (sCons_nx e).trans ?_
  simp
end
theorem law_true (ns : List Int) (h : ns.length ≤ 63) : ∃ m', run 12 f_law [.fro (ns.map .int)] [] = .ok (.bl true) m' := by
  have r (d : Nat) (f : Nat) : run (d + 1) f = body f (run d) := rfl
  have c1 : ∀ d, SWhole (run (d + 1)) := fun d i m => q_is_whole (C := run d) i
  have c2 : ∀ d, SFault (run (d + 2)) := fun d ps m c => q_chart_fault (C := run (d + 1)) (c1 d) c
  have c3 : ∀ d, SReqChart (run (d + 3)) := fun d ps m c => q_require_chart (C := run (d + 2)) (c2 d) c
  have c4 : ∀ d, SReqPost (run (d + 2)) := fun d ps m k hk => q_require_post (C := run (d + 1)) (c1 d) hk
  have c5 : ∀ d, STreeInit (run (d + 1)) := fun d ps m t c hl ht => q_tree_init (C := run d) c hl ht
  have c6 : ∀ d, SPath (run (d + 1)) := fun d ps m t b k c hl T hk => q_path (C := run d) c hl T hk
  have c7 : ∀ d, SIsBelow (run (d + 1)) := fun d ps m t b k u c hl T hk => q_is_below (C := run d) c hl T hk
  have c8 : ∀ d, SCommon (run (d + 1)) := fun d ps m t b x y c hl T hx hy => q_common (C := run d) c hl T hx hy
  have c9 : ∀ d, SPathTo (run (d + 4)) := fun d ps m k c hl hk => q_path_to (C := run (d + 3)) (c3 d) (c4 (d + 1)) (c5 (d + 2)) (c6 (d + 2)) c hl hk
  have c10 : ∀ d, SPostsBelow (run (d + 4)) := fun d ps m k c hl hk => q_posts_below (C := run (d + 3)) (c3 d) (c4 (d + 1)) (c5 (d + 2)) (c7 (d + 2)) c hl hk
  have c11 : ∀ d, SCommonPost (run (d + 4)) := fun d ps m x y c hl hx hy => q_common_post (C := run (d + 3)) (c3 d) (c4 (d + 1)) (c5 (d + 2)) (c8 (d + 2)) c hl hx hy
  have c12 : ∀ d, SCell (run (d + 1)) := fun d ns i m => q_cell (C := run d)
  have c13 : ∀ d, SHash (run (d + 1)) := fun d a b m ha hb => q_hash (C := run d) ha hb
  have c14 : ∀ d, SGenerator (run (d + 2)) := fun d => sgenerator fun ns i m hi => q_generator (C := run (d + 1)) (c12 d) hi
  have c15 : ∀ d, SRandom (run (d + 2)) := fun d m g n N hg h0 hN hn => q_random (C := run (d + 1)) (c13 d) hg h0 hN hn
  have c16 : ∀ d, SRandomChart (run (d + 3)) := fun d m g n M hg h0 hM hn => q_random_chart (C := run (d + 2)) (c15 d) hg h0 hM hn
  have c17 : ∀ d, SWay (run (d + 1)) := fun d ps m k c hl hk => q_way (C := run d) c hl hk
  have c18 : ∀ d, SPostRight (run (d + 5)) := fun d ps m k c hl hk => q_post_right (C := run (d + 4)) (c17 (d + 3)) (c9 d) (c10 d) c hl hk
  have c19 : ∀ d, SPairRight (run (d + 5)) := fun d ps m x y c hl hx hy => q_pair_right (C := run (d + 4)) (c17 (d + 3)) (c11 d) c hl hx hy
  exact q_law (C := run 11) (c14 9) (c15 9) (c16 8) (c18 6) (c19 6) ns
end LawP
set_option maxRecDepth 100000
set_option maxHeartbeats 4000000
namespace LawP
open PySem L2 MP
abbrev prog : Program := PySem.Challenge.pw_movingup_k03_paths_and_posts
def top (i : Nat) : Stmt := prog.main.body.getD i (.Pass ⟨0, 0, 0, 0⟩)
abbrev s_is_whole : Stmt := top 6
abbrev n_is_whole : List Str := ["value"]
abbrev p_is_whole : List Str := ["value"]
theorem sc_is_whole : FnScope n_is_whole p_is_whole (defScope s_is_whole) := ⟨rfl, rfl, rfl, by decide +kernel, rfl, by decide +kernel, by decide +kernel⟩
abbrev s_chart_fault : Stmt := top 7
abbrev n_chart_fault : List Str := ["value", "post", "above"]
abbrev p_chart_fault : List Str := ["value"]
theorem sc_chart_fault : FnScope n_chart_fault p_chart_fault (defScope s_chart_fault) := ⟨rfl, rfl, rfl, by decide +kernel, rfl, by decide +kernel, by decide +kernel⟩
abbrev s_require_chart : Stmt := top 8
abbrev n_require_chart : List Str := ["chart", "reason"]
abbrev p_require_chart : List Str := ["chart"]
theorem sc_require_chart : FnScope n_require_chart p_require_chart (defScope s_require_chart) := ⟨rfl, rfl, rfl, by decide +kernel, rfl, by decide +kernel, by decide +kernel⟩
abbrev s_require_post : Stmt := top 9
abbrev n_require_post : List Str := ["chart", "post"]
abbrev p_require_post : List Str := ["chart", "post"]
theorem sc_require_post : FnScope n_require_post p_require_post (defScope s_require_post) := ⟨rfl, rfl, rfl, by decide +kernel, rfl, by decide +kernel, by decide +kernel⟩
abbrev s_Tree_init : Stmt := inClass (top 10) 0
abbrev n_Tree_init : List Str := ["self", "chart", "post", "upper"]
abbrev p_Tree_init : List Str := ["self", "chart"]
theorem sc_Tree_init : FnScope n_Tree_init p_Tree_init (defScope s_Tree_init) := ⟨rfl, rfl, rfl, by decide +kernel, rfl, by decide +kernel, by decide +kernel⟩
abbrev s_Tree_path : Stmt := inClass (top 10) 1
abbrev n_Tree_path : List Str := ["self", "post", "posts"]
abbrev p_Tree_path : List Str := ["self", "post"]
theorem sc_Tree_path : FnScope n_Tree_path p_Tree_path (defScope s_Tree_path) := ⟨rfl, rfl, rfl, by decide +kernel, rfl, by decide +kernel, by decide +kernel⟩
abbrev s_Tree_is_below : Stmt := inClass (top 10) 2
abbrev n_Tree_is_below : List Str := ["self", "post", "top"]
abbrev p_Tree_is_below : List Str := ["self", "post", "top"]
theorem sc_Tree_is_below : FnScope n_Tree_is_below p_Tree_is_below (defScope s_Tree_is_below) := ⟨rfl, rfl, rfl, by decide +kernel, rfl, by decide +kernel, by decide +kernel⟩
abbrev s_Tree_common : Stmt := inClass (top 10) 3
abbrev n_Tree_common : List Str := ["self", "a", "b"]
abbrev p_Tree_common : List Str := ["self", "a", "b"]
theorem sc_Tree_common : FnScope n_Tree_common p_Tree_common (defScope s_Tree_common) := ⟨rfl, rfl, rfl, by decide +kernel, rfl, by decide +kernel, by decide +kernel⟩
abbrev s_path_to : Stmt := top 11
abbrev n_path_to : List Str := ["chart", "post"]
abbrev p_path_to : List Str := ["chart", "post"]
theorem sc_path_to : FnScope n_path_to p_path_to (defScope s_path_to) := ⟨rfl, rfl, rfl, by decide +kernel, rfl, by decide +kernel, by decide +kernel⟩
abbrev s_posts_below : Stmt := top 12
abbrev n_posts_below : List Str := ["chart", "post", "tree", "other"]
abbrev p_posts_below : List Str := ["chart", "post"]
theorem sc_posts_below : FnScope n_posts_below p_posts_below (defScope s_posts_below) := ⟨rfl, rfl, rfl, by decide +kernel, rfl, by decide +kernel, by decide +kernel⟩
abbrev s_common_post : Stmt := top 13
abbrev n_common_post : List Str := ["chart", "a", "b"]
abbrev p_common_post : List Str := ["chart", "a", "b"]
theorem sc_common_post : FnScope n_common_post p_common_post (defScope s_common_post) := ⟨rfl, rfl, rfl, by decide +kernel, rfl, by decide +kernel, by decide +kernel⟩
abbrev s__law_cell : Stmt := top 15
abbrev n__law_cell : List Str := ["_law_script", "_law_index"]
abbrev p__law_cell : List Str := ["_law_script", "_law_index"]
theorem sc__law_cell : FnScope n__law_cell p__law_cell (defScope s__law_cell) := ⟨rfl, rfl, rfl, by decide +kernel, rfl, by decide +kernel, by decide +kernel⟩
abbrev s__law_hash : Stmt := top 16
abbrev n__law_hash : List Str := ["_law_seed", "_law_index", "_law_mixed"]
abbrev p__law_hash : List Str := ["_law_seed", "_law_index"]
theorem sc__law_hash : FnScope n__law_hash p__law_hash (defScope s__law_hash) := ⟨rfl, rfl, rfl, by decide +kernel, rfl, by decide +kernel, by decide +kernel⟩
abbrev s__law_generator : Stmt := top 17
abbrev n__law_generator : List Str := ["_law_script", "_law_index", "_law_seed"]
abbrev p__law_generator : List Str := ["_law_script", "_law_index"]
theorem sc__law_generator : FnScope n__law_generator p__law_generator (defScope s__law_generator) := ⟨rfl, rfl, rfl, by decide +kernel, rfl, by decide +kernel, by decide +kernel⟩
abbrev s__law_random : Stmt := top 18
abbrev n__law_random : List Str := ["_law_generator_here", "_law_bound", "_law_drawn", "_law_part"]
abbrev p__law_random : List Str := ["_law_generator_here", "_law_bound"]
theorem sc__law_random : FnScope n__law_random p__law_random (defScope s__law_random) := ⟨rfl, rfl, rfl, by decide +kernel, rfl, by decide +kernel, by decide +kernel⟩
abbrev s__law_random_chart : Stmt := top 19
abbrev n__law_random_chart : List Str := ["_law_generator_here", "_law_most", "_law_size", "_law_kind", "_law_tree", "_law_place", "_law_upper"]
abbrev p__law_random_chart : List Str := ["_law_generator_here", "_law_most"]
theorem sc__law_random_chart : FnScope n__law_random_chart p__law_random_chart (defScope s__law_random_chart) := ⟨rfl, rfl, rfl, by decide +kernel, rfl, by decide +kernel, by decide +kernel⟩
abbrev s__law_way : Stmt := top 20
abbrev n__law_way : List Str := ["_law_tree", "_law_place", "_law_way_here"]
abbrev p__law_way : List Str := ["_law_tree", "_law_place"]
theorem sc__law_way : FnScope n__law_way p__law_way (defScope s__law_way) := ⟨rfl, rfl, rfl, by decide +kernel, rfl, by decide +kernel, by decide +kernel⟩
abbrev s__law_post_right : Stmt := top 21
abbrev n__law_post_right : List Str := ["_law_tree", "_law_place", "_law_expected", "_law_attempt", "_law_other", "_law_path", "_law_lower"]
abbrev p__law_post_right : List Str := ["_law_tree", "_law_place"]
theorem sc__law_post_right : FnScope n__law_post_right p__law_post_right (defScope s__law_post_right) := ⟨rfl, rfl, rfl, by decide +kernel, rfl, by decide +kernel, by decide +kernel⟩
abbrev s__law_pair_right : Stmt := top 22
abbrev n__law_pair_right : List Str := ["_law_tree", "_law_one", "_law_other", "_law_shared", "_law_place"]
abbrev p__law_pair_right : List Str := ["_law_tree", "_law_one", "_law_other"]
theorem sc__law_pair_right : FnScope n__law_pair_right p__law_pair_right (defScope s__law_pair_right) := ⟨rfl, rfl, rfl, by decide +kernel, rfl, by decide +kernel, by decide +kernel⟩
abbrev s_law : Stmt := top 23
abbrev n_law : List Str := ["_law_script", "_law_index", "_law_generator_here", "_law_tree", "_law_size", "_law_attempt", "_law_one", "_law_other", "_law_place"]
abbrev p_law : List Str := ["_law_script"]
theorem sc_law : FnScope n_law p_law (defScope s_law) := ⟨rfl, rfl, rfl, by decide +kernel, rfl, by decide +kernel, by decide +kernel⟩
def anames : List Str := ["above", "below"]
def aname (i : Nat) : Str := anames.getD i ""
theorem aname_inj : ∀ i j, i < 2 → j < 2 → aname i = aname j → i = j := by
  have h : ∀ i : Fin 2, ∀ j : Fin 2, aname i = aname j → i = j := by decide +kernel
  exact fun i j hi hj e => congrArg Fin.val (h ⟨i, hi⟩ ⟨j, hj⟩ e)
structure TA where
  a_is_whole : Addr
  d_is_whole : FuncData
  a_chart_fault : Addr
  d_chart_fault : FuncData
  a_require_chart : Addr
  d_require_chart : FuncData
  a_require_post : Addr
  d_require_post : FuncData
  a_Tree_init : Addr
  d_Tree_init : FuncData
  a_Tree_path : Addr
  d_Tree_path : FuncData
  a_Tree_is_below : Addr
  d_Tree_is_below : FuncData
  a_Tree_common : Addr
  d_Tree_common : FuncData
  a_path_to : Addr
  d_path_to : FuncData
  a_posts_below : Addr
  d_posts_below : FuncData
  a_common_post : Addr
  d_common_post : FuncData
  a__law_cell : Addr
  d__law_cell : FuncData
  a__law_hash : Addr
  d__law_hash : FuncData
  a__law_generator : Addr
  d__law_generator : FuncData
  a__law_random : Addr
  d__law_random : FuncData
  a__law_random_chart : Addr
  d__law_random_chart : FuncData
  a__law_way : Addr
  d__law_way : FuncData
  a__law_post_right : Addr
  d__law_post_right : FuncData
  a__law_pair_right : Addr
  d__law_pair_right : FuncData
  a_law : Addr
  d_law : FuncData
  c_Tree : Addr
def zc (K : PySem.W.Frag) (t : TA) : Zc where
  K := K
  CA := fun i => if i = 0 then t.c_Tree else 0
  AN := aname
  nA := 2
  inj := aname_inj
structure Tx (K : PySem.W.Frag) (mg : Str → Option Value) (t : TA) : Prop where
  F_is_whole : FnF K mg t.a_is_whole t.d_is_whole "is_whole" "is_whole" s_is_whole p_is_whole
  F_chart_fault : FnF K mg t.a_chart_fault t.d_chart_fault "chart_fault" "chart_fault" s_chart_fault p_chart_fault
  F_require_chart : FnF K mg t.a_require_chart t.d_require_chart "require_chart" "require_chart" s_require_chart p_require_chart
  F_require_post : FnF K mg t.a_require_post t.d_require_post "require_post" "require_post" s_require_post p_require_post
  M_Tree_init : MtF K t.c_Tree t.a_Tree_init t.d_Tree_init "__init__" "Tree.__init__" s_Tree_init p_Tree_init
  M_Tree_path : MtF K t.c_Tree t.a_Tree_path t.d_Tree_path "path" "Tree.path" s_Tree_path p_Tree_path
  M_Tree_is_below : MtF K t.c_Tree t.a_Tree_is_below t.d_Tree_is_below "is_below" "Tree.is_below" s_Tree_is_below p_Tree_is_below
  M_Tree_common : MtF K t.c_Tree t.a_Tree_common t.d_Tree_common "common" "Tree.common" s_Tree_common p_Tree_common
  F_path_to : FnF K mg t.a_path_to t.d_path_to "path_to" "path_to" s_path_to p_path_to
  F_posts_below : FnF K mg t.a_posts_below t.d_posts_below "posts_below" "posts_below" s_posts_below p_posts_below
  F_common_post : FnF K mg t.a_common_post t.d_common_post "common_post" "common_post" s_common_post p_common_post
  F__law_cell : FnF K mg t.a__law_cell t.d__law_cell "_law_cell" "_law_cell" s__law_cell p__law_cell
  F__law_hash : FnF K mg t.a__law_hash t.d__law_hash "_law_hash" "_law_hash" s__law_hash p__law_hash
  F__law_generator : FnF K mg t.a__law_generator t.d__law_generator "_law_generator" "_law_generator" s__law_generator p__law_generator
  F__law_random : FnF K mg t.a__law_random t.d__law_random "_law_random" "_law_random" s__law_random p__law_random
  F__law_random_chart : FnF K mg t.a__law_random_chart t.d__law_random_chart "_law_random_chart" "_law_random_chart" s__law_random_chart p__law_random_chart
  F__law_way : FnF K mg t.a__law_way t.d__law_way "_law_way" "_law_way" s__law_way p__law_way
  F__law_post_right : FnF K mg t.a__law_post_right t.d__law_post_right "_law_post_right" "_law_post_right" s__law_post_right p__law_post_right
  F__law_pair_right : FnF K mg t.a__law_pair_right t.d__law_pair_right "_law_pair_right" "_law_pair_right" s__law_pair_right p__law_pair_right
  F_law : FnF K mg t.a_law t.d_law "law" "law" s_law p_law
  C_Tree : ClF K mg t.c_Tree "Tree"
  K_Tree : Mk K t.c_Tree t.a_Tree_init
  A_above : ClsA (zc K t) [0] 0
  A_below : ClsA (zc K t) [0] 1
  no_path : ∀ k, k < (zc K t).nA → (zc K t).AN k ≠ "path"
  no_is_below : ∀ k, k < (zc K t).nA → (zc K t).AN k ≠ "is_below"
  no_common : ∀ k, k < (zc K t).nA → (zc K t).AN k ≠ "common"
  n_bool : mg "bool" = none
  n_enumerate : mg "enumerate" = none
  n_int : mg "int" = none
  n_isinstance : mg "isinstance" = none
  n_len : mg "len" = none
  n_max : mg "max" = none
  n_min : mg "min" = none
  n_range : mg "range" = none
  n_repr : mg "repr" = none
  n_str : mg "str" = none
  n_tuple : mg "tuple" = none
structure Os (P : Program) (w : World) (K : PySem.W.Frag) (mg : Str → Option Value) (base : Heap) (t : TA) (C : Calls) (k : Nat) : Prop where
  o_is_whole : FnOk P w K mg base CX0 k t.a_is_whole t.d_is_whole p_is_whole (SpC (zc K t) 1 (C f_is_whole))
  o_chart_fault : FnOk P w K mg base CX0 k t.a_chart_fault t.d_chart_fault p_chart_fault (SpC (zc K t) 1 (C f_chart_fault))
  o_require_chart : FnOk P w K mg base CX0 k t.a_require_chart t.d_require_chart p_require_chart (SpC (zc K t) 1 (C f_require_chart))
  o_require_post : FnOk P w K mg base CX0 k t.a_require_post t.d_require_post p_require_post (SpC (zc K t) 2 (C f_require_post))
  o_Tree_init : FnOk P w K mg base CX0 k t.a_Tree_init t.d_Tree_init p_Tree_init (SpC (zc K t) 2 (C f_Tree_init))
  o_Tree_path : FnOk P w K mg base CX0 k t.a_Tree_path t.d_Tree_path p_Tree_path (SpC (zc K t) 2 (C f_Tree_path))
  o_Tree_is_below : FnOk P w K mg base CX0 k t.a_Tree_is_below t.d_Tree_is_below p_Tree_is_below (SpC (zc K t) 3 (C f_Tree_is_below))
  o_Tree_common : FnOk P w K mg base CX0 k t.a_Tree_common t.d_Tree_common p_Tree_common (SpC (zc K t) 3 (C f_Tree_common))
  o_path_to : FnOk P w K mg base CX0 k t.a_path_to t.d_path_to p_path_to (SpC (zc K t) 2 (C f_path_to))
  o_posts_below : FnOk P w K mg base CX0 k t.a_posts_below t.d_posts_below p_posts_below (SpC (zc K t) 2 (C f_posts_below))
  o_common_post : FnOk P w K mg base CX0 k t.a_common_post t.d_common_post p_common_post (SpC (zc K t) 3 (C f_common_post))
  o__law_cell : FnOk P w K mg base CX0 k t.a__law_cell t.d__law_cell p__law_cell (SpC (zc K t) 2 (C f__law_cell))
  o__law_hash : FnOk P w K mg base CX0 k t.a__law_hash t.d__law_hash p__law_hash (SpC (zc K t) 2 (C f__law_hash))
  o__law_generator : FnOk P w K mg base CX0 k t.a__law_generator t.d__law_generator p__law_generator (SpC (zc K t) 2 (C f__law_generator))
  o__law_random : FnOk P w K mg base CX0 k t.a__law_random t.d__law_random p__law_random (SpC (zc K t) 2 (C f__law_random))
  o__law_random_chart : FnOk P w K mg base CX0 k t.a__law_random_chart t.d__law_random_chart p__law_random_chart (SpC (zc K t) 2 (C f__law_random_chart))
  o__law_way : FnOk P w K mg base CX0 k t.a__law_way t.d__law_way p__law_way (SpC (zc K t) 2 (C f__law_way))
  o__law_post_right : FnOk P w K mg base CX0 k t.a__law_post_right t.d__law_post_right p__law_post_right (SpC (zc K t) 2 (C f__law_post_right))
  o__law_pair_right : FnOk P w K mg base CX0 k t.a__law_pair_right t.d__law_pair_right p__law_pair_right (SpC (zc K t) 3 (C f__law_pair_right))
  o_law : FnOk P w K mg base CX0 k t.a_law t.d_law p_law (SpC (zc K t) 1 (C f_law))
section
variable {P : Program} {w : World} {K : PySem.W.Frag} {mg : Str → Option Value} {base : Heap} {t : TA} {C : Calls} {k : Nat}
set_option linter.unusedVariables false
theorem d_is_whole (T : Tx K mg t) (O : Os P w K mg base t C k) : FnOk P w K mg base CX0 (k + 2) t.a_is_whole t.d_is_whole p_is_whole (SpC (zc K t) 1 (callB 1 (b_is_whole C))) :=
  fn_ok (Z := zc K t) T.F_is_whole.F sc_is_whole fun cdv A outer s H E hr => by
  have hr1 : Room k _ := hr.mono (Nat.le_succ k)
  have hu := hr.units
  exact (ssOne (ssRet (seAnd (sIsi rfl (by decide) (by rfl) T.n_isinstance (by rfl) T.n_int (by decide +kernel) (pw 0) (by decide) (by decide)) (seAnd (seNot (sIsi rfl (by decide) (by rfl) T.n_isinstance (by rfl) T.n_bool (by decide +kernel) (pw 0) (by decide) (by decide))) (seOne (sCmp so_ge (pw 0) sInt (nomark _)))))))
theorem d_chart_fault (T : Tx K mg t) (O : Os P w K mg base t C k) : FnOk P w K mg base CX0 (k + 2) t.a_chart_fault t.d_chart_fault p_chart_fault (SpC (zc K t) 1 (callB 3 (b_chart_fault C))) :=
  fn_ok (Z := zc K t) T.F_chart_fault.F sc_chart_fault fun cdv A outer s H E hr => by
  have hr1 : Room k _ := hr.mono (Nat.le_succ k)
  have hu := hr.units
  exact (ssCons (ssIf (swOr (stNot (stV (sIsi rfl (by decide) (by rfl) T.n_isinstance (by rfl) T.n_tuple (by decide +kernel) (pw 0) (by decide) (by decide)))) (swOr (stCmp (so_eq rfl hu) (pw 0) (sTup saNil) (nomark _)) (swOne (stCmp so_isNot (sIx rfl (pw 0) sInt (fun _ _ => rfl)) sNon (nomark _))))).pt (ssOne (ssRet (sTup (saCons sStr saNil)))) ssNil)
  (ssCons (ssFor (vs := [1, 2]) PassesOwn.never rfl (siEnum rfl (by rfl) T.n_enumerate (pw 0)) (sgTup rfl rfl (sgsCons (gw 1 sc_chart_fault.nd) (sgsCons (gw 2 sc_chart_fault.nd) sgsNil))) (ssOne (ssIf (swAnd (stCmp so_gt (pw 1) sInt (nomark _)) (swOne (swOr (stNot (stV (sCall rfl (fne T.F_is_whole O.o_is_whole hr1) (by rfl) (saCons (pw 2) saNil)))) (swOne (stCmp so_ge (pw 2) (pw 1) (nomark _)))).pt)).pt (ssOne (ssRet (sTup (saCons sStr (saCons (pw 1) saNil))))) ssNil)))
  (ssOne (ssRet sNon))))
theorem d_require_chart (T : Tx K mg t) (O : Os P w K mg base t C k) : FnOk P w K mg base CX0 (k + 2) t.a_require_chart t.d_require_chart p_require_chart (SpC (zc K t) 1 (callB 2 (b_require_chart C))) :=
  fn_ok (Z := zc K t) T.F_require_chart.F sc_require_chart fun cdv A outer s H E hr => by
  have hr1 : Room k _ := hr.mono (Nat.le_succ k)
  have hu := hr.units
  exact (ssCons (setw 1 sc_require_chart.nd (sCall rfl (fne T.F_chart_fault O.o_chart_fault hr1) (by rfl) (saCons (pw 0) saNil)))
  (ssOne (ssIf (stCmp so_isNot (pw 1) sNon (nomark _)) (ssOne ssNever) ssNil)))
theorem d_require_post (T : Tx K mg t) (O : Os P w K mg base t C k) : FnOk P w K mg base CX0 (k + 2) t.a_require_post t.d_require_post p_require_post (SpC (zc K t) 2 (callB 2 (b_require_post C))) :=
  fn_ok (Z := zc K t) T.F_require_post.F sc_require_post fun cdv A outer s H E hr => by
  have hr1 : Room k _ := hr.mono (Nat.le_succ k)
  have hu := hr.units
  exact (ssOne (ssIf (swOr (stNot (stV (sCall rfl (fne T.F_is_whole O.o_is_whole hr1) (by rfl) (saCons (pw 1) saNil)))) (swOne (stCmp so_ge (pw 1) (sB (cr_len rfl) (by rfl) T.n_len (by decide +kernel) (saCons (pw 0) saNil)) (nomark _)))).pt (ssOne ssNever) ssNil))
theorem d_Tree_init (T : Tx K mg t) (O : Os P w K mg base t C k) : FnOk P w K mg base CX0 (k + 2) t.a_Tree_init t.d_Tree_init p_Tree_init (SpC (zc K t) 2 (callB 4 (b_Tree_init C))) :=
  fn_ok (Z := zc K t) T.M_Tree_init.F sc_Tree_init fun cdv A outer s H E hr => by
  have hr1 : Room k _ := hr.mono (Nat.le_succ k)
  have hu := hr.units
  exact (ssCons (ssFld rfl T.A_above rfl (pw 0) (pw 1) rfl)
  (ssCons (ssFld rfl T.A_below rfl (pw 0) (sLc rfl sc_Tree_init.nd (siSeq rfl (pw 1)) (blkOk_by (own := [(PySem.Str.ofString "post", 2)]) (N := n_Tree_init) (sc := defScope s_Tree_init) (by decide +kernel)) rfl (fun _ _ _ _ _ => (gw 2 sc_Tree_init.nd)) (fun _ _ _ _ _ => sts) (fun _ _ _ _ _ => (sLst saNil))) rfl)
  (ssOne (ssFor (vs := [2, 3]) PassesOwn.never rfl (siEnum rfl (by rfl) T.n_enumerate (pw 1)) (sgTup rfl rfl (sgsCons (gw 2 sc_Tree_init.nd) (sgsCons (gw 3 sc_Tree_init.nd) sgsNil))) (ssOne (ssIf (stCmp so_isNot (pw 3) sNon (nomark _)) (ssOne (ssDrop (sBm rfl (by decide) PySem.F.plainAttrs_list PySem.F.slot_list_append PySem.F.type_list_append mm_append (sIx rfl (sFldE rfl T.A_below rfl (pw 0) rfl) (pw 3) (fun _ _ => rfl)) (saCons (pw 2) saNil)))) ssNil))))))
theorem d_Tree_path (T : Tx K mg t) (O : Os P w K mg base t C k) : FnOk P w K mg base CX0 (k + 2) t.a_Tree_path t.d_Tree_path p_Tree_path (SpC (zc K t) 2 (callB 3 (b_Tree_path C))) :=
  fn_ok (Z := zc K t) T.M_Tree_path.F sc_Tree_path fun cdv A outer s H E hr => by
  have hr1 : Room k _ := hr.mono (Nat.le_succ k)
  have hu := hr.units
  exact (ssCons (setw 2 sc_Tree_path.nd (sLst (saCons (pw 1) saNil)))
  (ssCons (ssWhile PassesOwn.never (stCmp (so_ne rfl hu) (sIx rfl (pw 2) (sUn so_neg sInt) (fun _ _ => rfl)) sInt (nomark _)) (ssOne (ssDrop (sBm rfl (by decide) PySem.F.plainAttrs_list PySem.F.slot_list_append PySem.F.type_list_append mm_append (pw 2) (saCons (sIx rfl (sFldE rfl T.A_above rfl (pw 0) rfl) (sIx rfl (pw 2) (sUn so_neg sInt) (fun _ _ => rfl)) (fun _ _ => rfl)) saNil)))))
  (ssOne (ssRet (sRev rfl (pw 2))))))
theorem d_Tree_is_below (T : Tx K mg t) (O : Os P w K mg base t C k) : FnOk P w K mg base CX0 (k + 2) t.a_Tree_is_below t.d_Tree_is_below p_Tree_is_below (SpC (zc K t) 3 (callB 3 (b_Tree_is_below C))) :=
  fn_ok (Z := zc K t) T.M_Tree_is_below.F sc_Tree_is_below fun cdv A outer s H E hr => by
  have hr1 : Room k _ := hr.mono (Nat.le_succ k)
  have hu := hr.units
  exact (ssCons (ssWhile PassesOwn.never (stCmp so_gt (pw 1) (pw 2) (nomark _)) (ssOne (setw 1 sc_Tree_is_below.nd (sIx rfl (sFldE rfl T.A_above rfl (pw 0) rfl) (pw 1) (fun _ _ => rfl)))))
  (ssOne (ssRet (sCmp (so_eq rfl hu) (pw 1) (pw 2) (nomark _)))))
theorem d_Tree_common (T : Tx K mg t) (O : Os P w K mg base t C k) : FnOk P w K mg base CX0 (k + 2) t.a_Tree_common t.d_Tree_common p_Tree_common (SpC (zc K t) 3 (callB 3 (b_Tree_common C))) :=
  fn_ok (Z := zc K t) T.M_Tree_common.F sc_Tree_common fun cdv A outer s H E hr => by
  have hr1 : Room k _ := hr.mono (Nat.le_succ k)
  have hu := hr.units
  exact (ssCons (ssWhile PassesOwn.never (stCmp (so_ne rfl hu) (pw 1) (pw 2) (nomark _)) (ssOne (ssPar (i := 1) (j := 2) rfl sc_Tree_common.nd rfl rfl (by decide) rfl rfl (sIx rfl (sFldE rfl T.A_above rfl (pw 0) rfl) (sB (cr_max2 rfl) (by rfl) T.n_max (by decide +kernel) (saCons (pw 1) (saCons (pw 2) saNil))) (fun _ _ => rfl)) (sB (cr_min2 rfl) (by rfl) T.n_min (by decide +kernel) (saCons (pw 1) (saCons (pw 2) saNil))) rfl)))
  (ssOne (ssRet (pw 1))))
theorem d_path_to (T : Tx K mg t) (O : Os P w K mg base t C k) : FnOk P w K mg base CX0 (k + 2) t.a_path_to t.d_path_to p_path_to (SpC (zc K t) 2 (callB 2 (b_path_to C))) :=
  fn_ok (Z := zc K t) T.F_path_to.F sc_path_to fun cdv A outer s H E hr => by
  have hr1 : Room k _ := hr.mono (Nat.le_succ k)
  have hu := hr.units
  exact (ssCons (ssDrop (sCall rfl (fne T.F_require_chart O.o_require_chart hr1) (by rfl) (saCons (pw 0) saNil)))
  (ssCons (ssDrop (sCall rfl (fne T.F_require_post O.o_require_post hr1) (by rfl) (saCons (pw 0) (saCons (pw 1) saNil))))
  (ssOne (ssRet (sMeth rfl (mte T.M_Tree_path T.C_Tree.c T.no_path O.o_Tree_path hr1) (sMake rfl (mke T.K_Tree T.C_Tree.m T.M_Tree_init.b O.o_Tree_init hr) (by rfl) (saCons (pw 0) saNil)) (saCons (pw 1) saNil))))))
theorem d_posts_below (T : Tx K mg t) (O : Os P w K mg base t C k) : FnOk P w K mg base CX0 (k + 2) t.a_posts_below t.d_posts_below p_posts_below (SpC (zc K t) 2 (callB 4 (b_posts_below C))) :=
  fn_ok (Z := zc K t) T.F_posts_below.F sc_posts_below fun cdv A outer s H E hr => by
  have hr1 : Room k _ := hr.mono (Nat.le_succ k)
  have hu := hr.units
  exact (ssCons (ssDrop (sCall rfl (fne T.F_require_chart O.o_require_chart hr1) (by rfl) (saCons (pw 0) saNil)))
  (ssCons (ssDrop (sCall rfl (fne T.F_require_post O.o_require_post hr1) (by rfl) (saCons (pw 0) (saCons (pw 1) saNil))))
  (ssCons (setw 2 sc_posts_below.nd (sMake rfl (mke T.K_Tree T.C_Tree.m T.M_Tree_init.b O.o_Tree_init hr) (by rfl) (saCons (pw 0) saNil)))
  (ssOne (ssRet (sLc rfl sc_posts_below.nd (siRange1 (by rfl) T.n_range (sB (cr_len rfl) (by rfl) T.n_len (by decide +kernel) (saCons (pw 0) saNil))) (blkOk_by (own := [(PySem.Str.ofString "other", 3)]) (N := n_posts_below) (sc := defScope s_posts_below) (by decide +kernel)) rfl (fun _ _ _ _ _ => (gw 3 sc_posts_below.nd)) (fun _ _ _ _ _ => (stsOne (stV (sMeth rfl (mte T.M_Tree_is_below T.C_Tree.c T.no_is_below O.o_Tree_is_below hr1) (pw 2) (saCons (pw 3) (saCons (pw 1) saNil)))))) (fun _ _ _ _ _ => (pw 3))))))))
theorem d_common_post (T : Tx K mg t) (O : Os P w K mg base t C k) : FnOk P w K mg base CX0 (k + 2) t.a_common_post t.d_common_post p_common_post (SpC (zc K t) 3 (callB 3 (b_common_post C))) :=
  fn_ok (Z := zc K t) T.F_common_post.F sc_common_post fun cdv A outer s H E hr => by
  have hr1 : Room k _ := hr.mono (Nat.le_succ k)
  have hu := hr.units
  exact (ssCons (ssDrop (sCall rfl (fne T.F_require_chart O.o_require_chart hr1) (by rfl) (saCons (pw 0) saNil)))
  (ssCons (ssDrop (sCall rfl (fne T.F_require_post O.o_require_post hr1) (by rfl) (saCons (pw 0) (saCons (pw 1) saNil))))
  (ssCons (ssDrop (sCall rfl (fne T.F_require_post O.o_require_post hr1) (by rfl) (saCons (pw 0) (saCons (pw 2) saNil))))
  (ssOne (ssRet (sMeth rfl (mte T.M_Tree_common T.C_Tree.c T.no_common O.o_Tree_common hr1) (sMake rfl (mke T.K_Tree T.C_Tree.m T.M_Tree_init.b O.o_Tree_init hr) (by rfl) (saCons (pw 0) saNil)) (saCons (pw 1) (saCons (pw 2) saNil))))))))
theorem d__law_cell (T : Tx K mg t) (O : Os P w K mg base t C k) : FnOk P w K mg base CX0 (k + 2) t.a__law_cell t.d__law_cell p__law_cell (SpC (zc K t) 2 (callB 2 (b__law_cell C))) :=
  fn_ok (Z := zc K t) T.F__law_cell.F sc__law_cell fun cdv A outer s H E hr => by
  have hr1 : Room k _ := hr.mono (Nat.le_succ k)
  have hu := hr.units
  exact (ssCons (ssIf (stCmp so_lt (pw 1) (sB (cr_len rfl) (by rfl) T.n_len (by decide +kernel) (saCons (pw 0) saNil)) (nomark _)) (ssOne (ssRet (sIx rfl (pw 0) (pw 1) (fun _ _ => rfl)))) ssNil)
  (ssOne (ssRet sInt)))
theorem d__law_hash (T : Tx K mg t) (O : Os P w K mg base t C k) : FnOk P w K mg base CX0 (k + 2) t.a__law_hash t.d__law_hash p__law_hash (SpC (zc K t) 2 (callB 3 (b__law_hash C))) :=
  fn_ok (Z := zc K t) T.F__law_hash.F sc__law_hash fun cdv A outer s H E hr => by
  have hr1 : Room k _ := hr.mono (Nat.le_succ k)
  have hu := hr.units
  exact (ssCons (setw 2 sc__law_hash.nd (sOp so_md (sBT cr_int (by rfl) T.n_int (by decide +kernel) (saCons (sOp (so_add rfl) (sOp (so_add rfl) (sOp (so_add rfl) (sOp (so_mul rfl) (pw 0) sInt) (sOp (so_mul rfl) (sOp (so_mul rfl) sInt (pw 1)) (pw 1))) (pw 1)) sInt) saNil)) sInt))
  (ssCons (setw 2 sc__law_hash.nd (sOp so_md (sBT cr_int (by rfl) T.n_int (by decide +kernel) (saCons (sOp (so_add rfl) (sOp (so_mul rfl) (pw 2) (pw 2)) sInt) saNil)) sInt))
  (ssOne (ssRet (sOp so_md (sBT cr_int (by rfl) T.n_int (by decide +kernel) (saCons (sOp (so_mul rfl) (pw 2) sInt) saNil)) sInt)))))
theorem d__law_generator (T : Tx K mg t) (O : Os P w K mg base t C k) : FnOk P w K mg base CX0 (k + 2) t.a__law_generator t.d__law_generator p__law_generator (SpC (zc K t) 2 (callB 3 (b__law_generator C))) :=
  fn_ok (Z := zc K t) T.F__law_generator.F sc__law_generator fun cdv A outer s H E hr => by
  have hr1 : Room k _ := hr.mono (Nat.le_succ k)
  have hu := hr.units
  exact (ssCons (setw 2 sc__law_generator.nd (sCall rfl (fne T.F__law_cell O.o__law_cell hr1) (by rfl) (saCons (pw 0) (saCons (pw 1) saNil))))
  (ssOne (ssRet (sLst (saCons (sOp so_md (sBT cr_int (by rfl) T.n_int (by decide +kernel) (saCons (sB (cr_max2 rfl) (by rfl) T.n_max (by decide +kernel) (saCons (sOp so_sub (pw 2) (sOp so_pow sInt sInt)) (saCons sInt saNil))) saNil)) (sOp so_pow (sOp so_pow sInt sInt) sInt)) (saCons (sOp so_md (sBT cr_int (by rfl) T.n_int (by decide +kernel) (saCons (pw 2) saNil)) sInt) (saCons (sOp (so_mul rfl) sInt (pw 1)) saNil)))))))
theorem d__law_random (T : Tx K mg t) (O : Os P w K mg base t C k) : FnOk P w K mg base CX0 (k + 2) t.a__law_random t.d__law_random p__law_random (SpC (zc K t) 2 (callB 4 (b__law_random C))) :=
  fn_ok (Z := zc K t) T.F__law_random.F sc__law_random fun cdv A outer s H E hr => by
  have hr1 : Room k _ := hr.mono (Nat.le_succ k)
  have hu := hr.units
  exact (ssCons (ssIf (stCmp so_gt (sIx rfl (pw 0) sInt (fun _ _ => rfl)) sInt (nomark _)) (ssCons (setw 2 sc__law_random.nd (sOp so_md (sBT cr_int (by rfl) T.n_int (by decide +kernel) (saCons (sIx rfl (pw 0) sInt (fun _ _ => rfl)) saNil)) (pw 1)))
  (ssCons (ssAsg (vs := []) (sOp so_fdiv (sIx rfl (pw 0) sInt (fun _ _ => rfl)) (pw 1)) (sgSub (pw 0) sInt))
  (ssOne (ssRet (pw 2))))) ssNil)
  (ssCons (setw 2 sc__law_random.nd sInt)
  (ssCons (ssFor (vs := [3]) PassesOwn.never rfl (siRange1 (by rfl) T.n_range (sOp (so_add rfl) sInt (sOp so_fdiv (sBits (pw 1)) sInt))) (gw 3 sc__law_random.nd) (ssCons (ssAsg (vs := []) (sOp (so_add rfl) (sIx rfl (pw 0) sInt (fun _ _ => rfl)) sInt) (sgSub (pw 0) sInt))
  (ssOne (setw 2 sc__law_random.nd (sOp (so_add rfl) (sOp (so_mul rfl) (pw 2) sInt) (sCall rfl (fne T.F__law_hash O.o__law_hash hr1) (by rfl) (saCons (sIx rfl (pw 0) sInt (fun _ _ => rfl)) (saCons (sIx rfl (pw 0) sInt (fun _ _ => rfl)) saNil))))))))
  (ssOne (ssRet (sOp so_md (sBT cr_int (by rfl) T.n_int (by decide +kernel) (saCons (pw 2) saNil)) (pw 1)))))))
theorem d__law_random_chart (T : Tx K mg t) (O : Os P w K mg base t C k) : FnOk P w K mg base CX0 (k + 2) t.a__law_random_chart t.d__law_random_chart p__law_random_chart (SpC (zc K t) 2 (callB 7 (b__law_random_chart C))) :=
  fn_ok (Z := zc K t) T.F__law_random_chart.F sc__law_random_chart fun cdv A outer s H E hr => by
  have hr1 : Room k _ := hr.mono (Nat.le_succ k)
  have hu := hr.units
  exact (ssCons (setw 2 sc__law_random_chart.nd (sOp (so_add rfl) sInt (sCall rfl (fne T.F__law_random O.o__law_random hr1) (by rfl) (saCons (pw 0) (saCons (pw 1) saNil)))))
  (ssCons (setw 3 sc__law_random_chart.nd (sCall rfl (fne T.F__law_random O.o__law_random hr1) (by rfl) (saCons (pw 0) (saCons sInt saNil))))
  (ssCons (setw 4 sc__law_random_chart.nd (sLst (saCons sNon saNil)))
  (ssCons (ssFor (vs := [5]) PassesOwn.never rfl (siRange2 (by rfl) T.n_range sInt (pw 2)) (gw 5 sc__law_random_chart.nd) (ssCons (setw 6 sc__law_random_chart.nd (sLst (saCons (sOp so_sub (pw 5) sInt) (saCons sInt (saCons (sCall rfl (fne T.F__law_random O.o__law_random hr1) (by rfl) (saCons (pw 0) (saCons (pw 5) saNil))) (saCons (sB (cr_max2 rfl) (by rfl) T.n_max (by decide +kernel) (saCons sInt (saCons (sOp so_sub (sOp so_sub (pw 5) sInt) (sCall rfl (fne T.F__law_random O.o__law_random hr1) (by rfl) (saCons (pw 0) (saCons sInt saNil)))) saNil))) (saCons (sOp so_fdiv (pw 5) sInt) saNil)))))))
  (ssOne (ssDrop (sBm rfl (by decide) PySem.F.plainAttrs_list PySem.F.slot_list_append PySem.F.type_list_append mm_append (pw 4) (saCons (sB (cr_min2 rfl) (by rfl) T.n_min (by decide +kernel) (saCons (sOp so_sub (pw 5) sInt) (saCons (sIx rfl (pw 6) (pw 3) (fun _ _ => rfl)) saNil))) saNil))))))
  (ssOne (ssRet (sBT (cr_tuple rfl) (by rfl) T.n_tuple (by decide +kernel) (saCons (pw 4) saNil))))))))
theorem d__law_way (T : Tx K mg t) (O : Os P w K mg base t C k) : FnOk P w K mg base CX0 (k + 2) t.a__law_way t.d__law_way p__law_way (SpC (zc K t) 2 (callB 3 (b__law_way C))) :=
  fn_ok (Z := zc K t) T.F__law_way.F sc__law_way fun cdv A outer s H E hr => by
  have hr1 : Room k _ := hr.mono (Nat.le_succ k)
  have hu := hr.units
  exact (ssCons (setw 2 sc__law_way.nd (sLst (saCons (pw 1) saNil)))
  (ssCons (ssWhile PassesOwn.never (stCmp so_isNot (sIx rfl (pw 0) (sIx rfl (pw 2) sInt (fun _ _ => rfl)) (fun _ _ => rfl)) sNon (nomark _)) (ssOne (setw 2 sc__law_way.nd (sOp (so_add rfl) (sLst (saCons (sIx rfl (pw 0) (sIx rfl (pw 2) sInt (fun _ _ => rfl)) (fun _ _ => rfl)) saNil)) (pw 2)))))
  (ssOne (ssRet (pw 2)))))
theorem d__law_post_right (T : Tx K mg t) (O : Os P w K mg base t C k) : FnOk P w K mg base CX0 (k + 2) t.a__law_post_right t.d__law_post_right p__law_post_right (SpC (zc K t) 2 (callB 7 (b__law_post_right C))) :=
  fn_ok (Z := zc K t) T.F__law_post_right.F sc__law_post_right fun cdv A outer s H E hr => by
  have hr1 : Room k _ := hr.mono (Nat.le_succ k)
  have hu := hr.units
  exact (ssCons (ssSetLc (i := 2) rfl sc__law_post_right.nd rfl rfl (sw_true rfl rfl rfl (by decide +kernel)) (siRange1 (by rfl) T.n_range (sB (cr_len rfl) (by rfl) T.n_len (by decide +kernel) (saCons (pw 0) saNil))) (blkOk_by (own := [(PySem.Str.ofString "_law_other", 4)]) (N := n__law_post_right) (sc := defScope s__law_post_right) (by decide +kernel)) rfl (fun _ _ _ _ _ => (gw 4 sc__law_post_right.nd)) (fun _ _ _ _ _ => (stsOne (stCmp (so_in rfl) (pw 1) (sCall rfl (fne T.F__law_way O.o__law_way hr1) (by rfl) (saCons (pw 0) (saCons (pw 4) saNil))) rfl))) (fun _ _ _ _ _ => (pw 4)))
  (ssCons (ssFor (vs := [3]) PassesOwn.never rfl (siRange1 (by rfl) T.n_range sInt) (gw 3 sc__law_post_right.nd) (ssCons (ssPar (i := 5) (j := 6) rfl sc__law_post_right.nd rfl rfl (by decide) rfl rfl (sCall rfl (fne T.F_path_to O.o_path_to hr1) (by rfl) (saCons (pw 0) (saCons (pw 1) saNil))) (sCall rfl (fne T.F_posts_below O.o_posts_below hr1) (by rfl) (saCons (pw 0) (saCons (pw 1) saNil))) rfl)
  (ssCons (ssIf (swOr (stCmp (so_ne rfl hu) (pw 5) (sCall rfl (fne T.F__law_way O.o__law_way hr1) (by rfl) (saCons (pw 0) (saCons (pw 1) saNil))) (nomark _)) (swOne (stCmp (so_ne rfl hu) (pw 6) (pw 2) (nomark _)))).pt (ssOne (ssRet sBl)) ssNil)
  (ssCons (ssDrop (sBm rfl (by decide) PySem.F.plainAttrs_list PySem.F.slot_list_append PySem.F.type_list_append mm_append (pw 5) (saCons sInt saNil)))
  (ssOne (ssDrop (sBm rfl (by decide) PySem.F.plainAttrs_list PySem.F.slot_list_append PySem.F.type_list_append mm_append (pw 6) (saCons sInt saNil))))))))
  (ssOne (ssRet sBl))))
theorem d__law_pair_right (T : Tx K mg t) (O : Os P w K mg base t C k) : FnOk P w K mg base CX0 (k + 2) t.a__law_pair_right t.d__law_pair_right p__law_pair_right (SpC (zc K t) 3 (callB 5 (b__law_pair_right C))) :=
  fn_ok (Z := zc K t) T.F__law_pair_right.F sc__law_pair_right fun cdv A outer s H E hr => by
  have hr1 : Room k _ := hr.mono (Nat.le_succ k)
  have hu := hr.units
  exact (ssCons (ssSetLc (i := 3) rfl sc__law_pair_right.nd rfl rfl (sw_true rfl rfl rfl (by decide +kernel)) (siSeq rfl (sCall rfl (fne T.F__law_way O.o__law_way hr1) (by rfl) (saCons (pw 0) (saCons (pw 1) saNil)))) (blkOk_by (own := [(PySem.Str.ofString "_law_place", 4)]) (N := n__law_pair_right) (sc := defScope s__law_pair_right) (by decide +kernel)) rfl (fun _ _ _ _ _ => (gw 4 sc__law_pair_right.nd)) (fun _ _ _ _ _ => (stsOne (stCmp (so_in rfl) (pw 4) (sCall rfl (fne T.F__law_way O.o__law_way hr1) (by rfl) (saCons (pw 0) (saCons (pw 2) saNil))) rfl))) (fun _ _ _ _ _ => (pw 4)))
  (ssOne (ssRet (seAnd (sCmp (so_eq rfl hu) (sB cr_repr (by rfl) T.n_repr (by decide +kernel) (saCons (sCall rfl (fne T.F_common_post O.o_common_post hr1) (by rfl) (saCons (pw 0) (saCons (pw 1) (saCons (pw 2) saNil)))) saNil)) (sBT cr_str (by rfl) T.n_str (by decide +kernel) (saCons (sIx rfl (pw 3) (sUn so_neg sInt) (fun _ _ => rfl)) saNil)) (nomark _)) (seOne (sCmp (so_eq rfl hu) (sCall rfl (fne T.F_common_post O.o_common_post hr1) (by rfl) (saCons (pw 0) (saCons (pw 2) (saCons (pw 1) saNil)))) (sIx rfl (pw 3) (sUn so_neg sInt) (fun _ _ => rfl)) (nomark _)))))))
theorem d_law (T : Tx K mg t) (O : Os P w K mg base t C k) : FnOk P w K mg base CX0 (k + 2) t.a_law t.d_law p_law (SpC (zc K t) 1 (callB 9 (b_law C))) :=
  fn_ok (Z := zc K t) T.F_law.F sc_law fun cdv A outer s H E hr => by
  have hr1 : Room k _ := hr.mono (Nat.le_succ k)
  have hu := hr.units
  exact (ssCons (ssFor (vs := [1]) PassesOwn.never rfl (siRange1 (by rfl) T.n_range sInt) (gw 1 sc_law.nd) (ssCons (setw 2 sc_law.nd (sCall rfl (fne T.F__law_generator O.o__law_generator hr1) (by rfl) (saCons (pw 0) (saCons (pw 1) saNil))))
  (ssCons (setw 3 sc_law.nd (sCall rfl (fne T.F__law_random_chart O.o__law_random_chart hr1) (by rfl) (saCons (pw 2) (saCons sInt saNil))))
  (ssCons (ssIf (stCmp (so_eq rfl hu) (pw 1) sInt (nomark _)) (ssOne (setw 3 sc_law.nd (sOp (so_add rfl) (sTup (saCons sNon saNil)) (sBT (cr_tuple rfl) (by rfl) T.n_tuple (by decide +kernel) (saCons (sLc rfl sc_law.nd (siRange2 (by rfl) T.n_range sInt sInt) (blkOk_by (own := [(PySem.Str.ofString "_law_place", 8)]) (N := n_law) (sc := defScope s_law) (by decide +kernel)) rfl (fun _ _ _ _ _ => (gw 8 sc_law.nd)) (fun _ _ _ _ _ => sts) (fun _ _ _ _ _ => (sCall rfl (fne T.F__law_random O.o__law_random hr1) (by rfl) (saCons (pw 2) (saCons (pw 8) saNil))))) saNil))))) ssNil)
  (ssCons (setw 4 sc_law.nd (sB (cr_len rfl) (by rfl) T.n_len (by decide +kernel) (saCons (pw 3) saNil)))
  (ssCons (ssIf (stCmp (so_ne rfl hu) (sLc rfl sc_law.nd (siRange1 (by rfl) T.n_range (pw 4)) (blkOk_by (own := [(PySem.Str.ofString "_law_place", 8)]) (N := n_law) (sc := defScope s_law) (by decide +kernel)) rfl (fun _ _ _ _ _ => (gw 8 sc_law.nd)) (fun _ _ _ _ _ => (stsOne (stNot (stV (sCall rfl (fne T.F__law_post_right O.o__law_post_right hr1) (by rfl) (saCons (pw 3) (saCons (pw 8) saNil))))))) (fun _ _ _ _ _ => (pw 8))) (sLst saNil) (nomark _)) (ssOne (ssRet sBl)) ssNil)
  (ssOne (ssFor (vs := [5]) PassesOwn.never rfl (siRange1 (by rfl) T.n_range (sB (cr_min2 rfl) (by rfl) T.n_min (by decide +kernel) (saCons (sOp (so_mul rfl) (pw 4) (pw 4)) (saCons sInt saNil)))) (gw 5 sc_law.nd) (ssCons (ssPar (i := 6) (j := 7) rfl sc_law.nd rfl rfl (by decide) rfl rfl (sOp so_md (sBT cr_int (by rfl) T.n_int (by decide +kernel) (saCons (sOp so_fdiv (pw 5) (pw 4)) saNil)) (pw 4)) (sOp so_md (sBT cr_int (by rfl) T.n_int (by decide +kernel) (saCons (pw 5) saNil)) (pw 4)) rfl)
  (ssCons (ssIf (stCmp (so_eq rfl hu) (pw 1) sInt (nomark _)) (ssOne (ssPar (i := 6) (j := 7) rfl sc_law.nd rfl rfl (by decide) rfl rfl (sCall rfl (fne T.F__law_random O.o__law_random hr1) (by rfl) (saCons (pw 2) (saCons (pw 4) saNil))) (sCall rfl (fne T.F__law_random O.o__law_random hr1) (by rfl) (saCons (pw 2) (saCons (pw 4) saNil))) rfl)) ssNil)
  (ssOne (ssIf (stNot (stV (sCall rfl (fne T.F__law_pair_right O.o__law_pair_right hr1) (by rfl) (saCons (pw 3) (saCons (pw 6) (saCons (pw 7) saNil)))))) (ssOne (ssRet sBl)) ssNil))))))))))))
  (ssOne (ssRet sBl)))
theorem os_step (T : Tx K mg t) (O : Os P w K mg base t C k) : Os P w K mg base t (fun f => body f C) (k + 2) where
  o_is_whole := d_is_whole T O
  o_chart_fault := d_chart_fault T O
  o_require_chart := d_require_chart T O
  o_require_post := d_require_post T O
  o_Tree_init := d_Tree_init T O
  o_Tree_path := d_Tree_path T O
  o_Tree_is_below := d_Tree_is_below T O
  o_Tree_common := d_Tree_common T O
  o_path_to := d_path_to T O
  o_posts_below := d_posts_below T O
  o_common_post := d_common_post T O
  o__law_cell := d__law_cell T O
  o__law_hash := d__law_hash T O
  o__law_generator := d__law_generator T O
  o__law_random := d__law_random T O
  o__law_random_chart := d__law_random_chart T O
  o__law_way := d__law_way T O
  o__law_post_right := d__law_post_right T O
  o__law_pair_right := d__law_pair_right T O
  o_law := d_law T O
theorem os_zero : Os P w K mg base t (run 0) 0 where
  o_is_whole := fn_bad (K := K) (Z := zc K t) fun _ _ => rfl
  o_chart_fault := fn_bad (K := K) (Z := zc K t) fun _ _ => rfl
  o_require_chart := fn_bad (K := K) (Z := zc K t) fun _ _ => rfl
  o_require_post := fn_bad (K := K) (Z := zc K t) fun _ _ => rfl
  o_Tree_init := fn_bad (K := K) (Z := zc K t) fun _ _ => rfl
  o_Tree_path := fn_bad (K := K) (Z := zc K t) fun _ _ => rfl
  o_Tree_is_below := fn_bad (K := K) (Z := zc K t) fun _ _ => rfl
  o_Tree_common := fn_bad (K := K) (Z := zc K t) fun _ _ => rfl
  o_path_to := fn_bad (K := K) (Z := zc K t) fun _ _ => rfl
  o_posts_below := fn_bad (K := K) (Z := zc K t) fun _ _ => rfl
  o_common_post := fn_bad (K := K) (Z := zc K t) fun _ _ => rfl
  o__law_cell := fn_bad (K := K) (Z := zc K t) fun _ _ => rfl
  o__law_hash := fn_bad (K := K) (Z := zc K t) fun _ _ => rfl
  o__law_generator := fn_bad (K := K) (Z := zc K t) fun _ _ => rfl
  o__law_random := fn_bad (K := K) (Z := zc K t) fun _ _ => rfl
  o__law_random_chart := fn_bad (K := K) (Z := zc K t) fun _ _ => rfl
  o__law_way := fn_bad (K := K) (Z := zc K t) fun _ _ => rfl
  o__law_post_right := fn_bad (K := K) (Z := zc K t) fun _ _ => rfl
  o__law_pair_right := fn_bad (K := K) (Z := zc K t) fun _ _ => rfl
  o_law := fn_bad (K := K) (Z := zc K t) fun _ _ => rfl
theorem os_all (T : Tx K mg t) : ∀ d, Os P w K mg base t (run d) (2 * d)
  | 0 => os_zero
  | d + 1 => os_step T (os_all T d)
end
end LawP
set_option maxRecDepth 100000
set_option maxHeartbeats 4000000
namespace LawP
open PySem L2 MP
theorem all_mk {l : PySem.W.OpenLaw} {w : World} {K : PySem.W.Frag} {h : Heap} {mg : Str → Option Value} {fa : Addr} (X : K.In h) (G : h.Ns mainGlobals mg) (hfa : mg "law" = some (.ref fa))
  {f0 f1 f2 f3 f4 f5 f6 f7 f8 f9 f10 f11 f12 f13 f14 f15 f16 f17 f18 f19 : Addr} {c_Tree : Addr} {od0 od1 od2 od3 od4 od5 od6 od7 od8 od9 od10 od11 od12 od13 od14 od15 od16 od17 od18 od19 an0 an1 an2 an3 an4 an5 an6 an7 an8 an9 an10 an11 an12 an13 an14 an15 an16 an17 an18 an19 : Option Addr} {sl0 sl1 sl2 sl3 sl4 sl5 sl6 sl7 sl8 sl9 sl10 sl11 sl12 sl13 sl14 sl15 sl16 sl17 sl18 sl19 : Array (Option Value)} {oc0 oc1 oc2 oc3 oc4 oc5 oc6 oc7 oc8 oc9 oc10 oc11 oc12 oc13 oc14 oc15 oc16 oc17 oc18 oc19 kV0 kV1 kV2 kV3 kV4 kV5 kV6 kV7 kV8 kV9 kV10 kV11 kV12 kV13 kV14 kV15 kV16 kV17 kV18 kV19 dc0 dc1 dc2 dc3 dc4 dc5 dc6 dc7 dc8 dc9 dc10 dc11 dc12 dc13 dc14 dc15 dc16 dc17 dc18 dc19 pm0 pm1 pm2 pm3 pm4 pm5 pm6 pm7 pm8 pm9 pm10 pm11 pm12 pm13 pm14 pm15 pm16 pm17 pm18 pm19 cd0 cd1 cd2 cd3 cd4 cd5 cd6 cd7 cd8 cd9 cd10 cd11 cd12 cd13 cd14 cd15 cd16 cd17 cd18 cd19 ct0 ct1 ct2 ct3 ct4 ct5 ct6 ct7 ct8 ct9 ct10 ct11 ct12 ct13 ct14 ct15 ct16 ct17 ct18 ct19 : Value}
  (x_Tree : PySem.W.nsIn K mainGlobals "Tree" = some (some (.ref c_Tree))) (pg_Tree : PySem.W.plainGet K c_Tree Str.empty = true) (hd_Tree : PySem.W.hasDictIn K c_Tree = true) (po_Tree : PySem.W.plainOver K c_Tree = true) (sa_Tree : PySem.W.findIn K (.ref c_Tree) "__setattr__" = some (some (.builtin "object.__setattr__"))) (mk_Tree : PySem.W.makesIn K c_Tree = true) (kc_Tree : PySem.W.keepIn K (.ref c_Tree) = true)
  (a0 : PySem.W.nsIn K mainGlobals "is_whole" = some (some (.ref f0)))
  (l0 : K.lookup f0 = some ⟨oc0, od0, .func (PySem.W.fnOf "is_whole" "is_whole" (defArgs s_is_whole) (defBody s_is_whole) (defScope s_is_whole) .none kV0 dc0 pm0 an0 cd0 ct0), sl0⟩) (c0 : PySem.W.codeIn K cd0 "is_whole" = true) (k0 : PySem.W.keepIn K (.ref f0) = true)
  (a1 : PySem.W.nsIn K mainGlobals "chart_fault" = some (some (.ref f1)))
  (l1 : K.lookup f1 = some ⟨oc1, od1, .func (PySem.W.fnOf "chart_fault" "chart_fault" (defArgs s_chart_fault) (defBody s_chart_fault) (defScope s_chart_fault) .none kV1 dc1 pm1 an1 cd1 ct1), sl1⟩) (c1 : PySem.W.codeIn K cd1 "chart_fault" = true) (k1 : PySem.W.keepIn K (.ref f1) = true)
  (a2 : PySem.W.nsIn K mainGlobals "require_chart" = some (some (.ref f2)))
  (l2 : K.lookup f2 = some ⟨oc2, od2, .func (PySem.W.fnOf "require_chart" "require_chart" (defArgs s_require_chart) (defBody s_require_chart) (defScope s_require_chart) .none kV2 dc2 pm2 an2 cd2 ct2), sl2⟩) (c2 : PySem.W.codeIn K cd2 "require_chart" = true) (k2 : PySem.W.keepIn K (.ref f2) = true)
  (a3 : PySem.W.nsIn K mainGlobals "require_post" = some (some (.ref f3)))
  (l3 : K.lookup f3 = some ⟨oc3, od3, .func (PySem.W.fnOf "require_post" "require_post" (defArgs s_require_post) (defBody s_require_post) (defScope s_require_post) .none kV3 dc3 pm3 an3 cd3 ct3), sl3⟩) (c3 : PySem.W.codeIn K cd3 "require_post" = true) (k3 : PySem.W.keepIn K (.ref f3) = true)
  (a4 : PySem.W.findIn K (.ref c_Tree) "__init__" = some (some (.ref f4))) (i4 : PySem.W.isFn K (.ref f4) = true)
  (l4 : K.lookup f4 = some ⟨oc4, od4, .func (PySem.W.fnOf "__init__" "Tree.__init__" (defArgs s_Tree_init) (defBody s_Tree_init) (defScope s_Tree_init) .none kV4 dc4 pm4 an4 cd4 ct4), sl4⟩) (c4 : PySem.W.codeIn K cd4 "Tree.__init__" = true) (k4 : PySem.W.keepIn K (.ref f4) = true)
  (a5 : PySem.W.findIn K (.ref c_Tree) "path" = some (some (.ref f5))) (i5 : PySem.W.isFn K (.ref f5) = true)
  (l5 : K.lookup f5 = some ⟨oc5, od5, .func (PySem.W.fnOf "path" "Tree.path" (defArgs s_Tree_path) (defBody s_Tree_path) (defScope s_Tree_path) .none kV5 dc5 pm5 an5 cd5 ct5), sl5⟩) (c5 : PySem.W.codeIn K cd5 "Tree.path" = true) (k5 : PySem.W.keepIn K (.ref f5) = true)
  (a6 : PySem.W.findIn K (.ref c_Tree) "is_below" = some (some (.ref f6))) (i6 : PySem.W.isFn K (.ref f6) = true)
  (l6 : K.lookup f6 = some ⟨oc6, od6, .func (PySem.W.fnOf "is_below" "Tree.is_below" (defArgs s_Tree_is_below) (defBody s_Tree_is_below) (defScope s_Tree_is_below) .none kV6 dc6 pm6 an6 cd6 ct6), sl6⟩) (c6 : PySem.W.codeIn K cd6 "Tree.is_below" = true) (k6 : PySem.W.keepIn K (.ref f6) = true)
  (a7 : PySem.W.findIn K (.ref c_Tree) "common" = some (some (.ref f7))) (i7 : PySem.W.isFn K (.ref f7) = true)
  (l7 : K.lookup f7 = some ⟨oc7, od7, .func (PySem.W.fnOf "common" "Tree.common" (defArgs s_Tree_common) (defBody s_Tree_common) (defScope s_Tree_common) .none kV7 dc7 pm7 an7 cd7 ct7), sl7⟩) (c7 : PySem.W.codeIn K cd7 "Tree.common" = true) (k7 : PySem.W.keepIn K (.ref f7) = true)
  (a8 : PySem.W.nsIn K mainGlobals "path_to" = some (some (.ref f8)))
  (l8 : K.lookup f8 = some ⟨oc8, od8, .func (PySem.W.fnOf "path_to" "path_to" (defArgs s_path_to) (defBody s_path_to) (defScope s_path_to) .none kV8 dc8 pm8 an8 cd8 ct8), sl8⟩) (c8 : PySem.W.codeIn K cd8 "path_to" = true) (k8 : PySem.W.keepIn K (.ref f8) = true)
  (a9 : PySem.W.nsIn K mainGlobals "posts_below" = some (some (.ref f9)))
  (l9 : K.lookup f9 = some ⟨oc9, od9, .func (PySem.W.fnOf "posts_below" "posts_below" (defArgs s_posts_below) (defBody s_posts_below) (defScope s_posts_below) .none kV9 dc9 pm9 an9 cd9 ct9), sl9⟩) (c9 : PySem.W.codeIn K cd9 "posts_below" = true) (k9 : PySem.W.keepIn K (.ref f9) = true)
  (a10 : PySem.W.nsIn K mainGlobals "common_post" = some (some (.ref f10)))
  (l10 : K.lookup f10 = some ⟨oc10, od10, .func (PySem.W.fnOf "common_post" "common_post" (defArgs s_common_post) (defBody s_common_post) (defScope s_common_post) .none kV10 dc10 pm10 an10 cd10 ct10), sl10⟩) (c10 : PySem.W.codeIn K cd10 "common_post" = true) (k10 : PySem.W.keepIn K (.ref f10) = true)
  (a11 : PySem.W.nsIn K mainGlobals "_law_cell" = some (some (.ref f11)))
  (l11 : K.lookup f11 = some ⟨oc11, od11, .func (PySem.W.fnOf "_law_cell" "_law_cell" (defArgs s__law_cell) (defBody s__law_cell) (defScope s__law_cell) .none kV11 dc11 pm11 an11 cd11 ct11), sl11⟩) (c11 : PySem.W.codeIn K cd11 "_law_cell" = true) (k11 : PySem.W.keepIn K (.ref f11) = true)
  (a12 : PySem.W.nsIn K mainGlobals "_law_hash" = some (some (.ref f12)))
  (l12 : K.lookup f12 = some ⟨oc12, od12, .func (PySem.W.fnOf "_law_hash" "_law_hash" (defArgs s__law_hash) (defBody s__law_hash) (defScope s__law_hash) .none kV12 dc12 pm12 an12 cd12 ct12), sl12⟩) (c12 : PySem.W.codeIn K cd12 "_law_hash" = true) (k12 : PySem.W.keepIn K (.ref f12) = true)
  (a13 : PySem.W.nsIn K mainGlobals "_law_generator" = some (some (.ref f13)))
  (l13 : K.lookup f13 = some ⟨oc13, od13, .func (PySem.W.fnOf "_law_generator" "_law_generator" (defArgs s__law_generator) (defBody s__law_generator) (defScope s__law_generator) .none kV13 dc13 pm13 an13 cd13 ct13), sl13⟩) (c13 : PySem.W.codeIn K cd13 "_law_generator" = true) (k13 : PySem.W.keepIn K (.ref f13) = true)
  (a14 : PySem.W.nsIn K mainGlobals "_law_random" = some (some (.ref f14)))
  (l14 : K.lookup f14 = some ⟨oc14, od14, .func (PySem.W.fnOf "_law_random" "_law_random" (defArgs s__law_random) (defBody s__law_random) (defScope s__law_random) .none kV14 dc14 pm14 an14 cd14 ct14), sl14⟩) (c14 : PySem.W.codeIn K cd14 "_law_random" = true) (k14 : PySem.W.keepIn K (.ref f14) = true)
  (a15 : PySem.W.nsIn K mainGlobals "_law_random_chart" = some (some (.ref f15)))
  (l15 : K.lookup f15 = some ⟨oc15, od15, .func (PySem.W.fnOf "_law_random_chart" "_law_random_chart" (defArgs s__law_random_chart) (defBody s__law_random_chart) (defScope s__law_random_chart) .none kV15 dc15 pm15 an15 cd15 ct15), sl15⟩) (c15 : PySem.W.codeIn K cd15 "_law_random_chart" = true) (k15 : PySem.W.keepIn K (.ref f15) = true)
  (a16 : PySem.W.nsIn K mainGlobals "_law_way" = some (some (.ref f16)))
  (l16 : K.lookup f16 = some ⟨oc16, od16, .func (PySem.W.fnOf "_law_way" "_law_way" (defArgs s__law_way) (defBody s__law_way) (defScope s__law_way) .none kV16 dc16 pm16 an16 cd16 ct16), sl16⟩) (c16 : PySem.W.codeIn K cd16 "_law_way" = true) (k16 : PySem.W.keepIn K (.ref f16) = true)
  (a17 : PySem.W.nsIn K mainGlobals "_law_post_right" = some (some (.ref f17)))
  (l17 : K.lookup f17 = some ⟨oc17, od17, .func (PySem.W.fnOf "_law_post_right" "_law_post_right" (defArgs s__law_post_right) (defBody s__law_post_right) (defScope s__law_post_right) .none kV17 dc17 pm17 an17 cd17 ct17), sl17⟩) (c17 : PySem.W.codeIn K cd17 "_law_post_right" = true) (k17 : PySem.W.keepIn K (.ref f17) = true)
  (a18 : PySem.W.nsIn K mainGlobals "_law_pair_right" = some (some (.ref f18)))
  (l18 : K.lookup f18 = some ⟨oc18, od18, .func (PySem.W.fnOf "_law_pair_right" "_law_pair_right" (defArgs s__law_pair_right) (defBody s__law_pair_right) (defScope s__law_pair_right) .none kV18 dc18 pm18 an18 cd18 ct18), sl18⟩) (c18 : PySem.W.codeIn K cd18 "_law_pair_right" = true) (k18 : PySem.W.keepIn K (.ref f18) = true)
  (a19 : PySem.W.nsIn K mainGlobals "law" = some (some (.ref f19)))
  (l19 : K.lookup f19 = some ⟨oc19, od19, .func (PySem.W.fnOf "law" "law" (defArgs s_law) (defBody s_law) (defScope s_law) .none kV19 dc19 pm19 an19 cd19 ct19), sl19⟩) (c19 : PySem.W.codeIn K cd19 "law" = true) (k19 : PySem.W.keepIn K (.ref f19) = true)
  (at_above_Tree : PySem.W.findIn K (.ref c_Tree) "above" = some none)
  (at_below_Tree : PySem.W.findIn K (.ref c_Tree) "below" = some none)
  (z_bool : PySem.W.nsIn K mainGlobals "bool" = some none)
  (z_enumerate : PySem.W.nsIn K mainGlobals "enumerate" = some none)
  (z_int : PySem.W.nsIn K mainGlobals "int" = some none)
  (z_isinstance : PySem.W.nsIn K mainGlobals "isinstance" = some none)
  (z_len : PySem.W.nsIn K mainGlobals "len" = some none)
  (z_max : PySem.W.nsIn K mainGlobals "max" = some none)
  (z_min : PySem.W.nsIn K mainGlobals "min" = some none)
  (z_range : PySem.W.nsIn K mainGlobals "range" = some none)
  (z_repr : PySem.W.nsIn K mainGlobals "repr" = some none)
  (z_str : PySem.W.nsIn K mainGlobals "str" = some none)
  (z_tuple : PySem.W.nsIn K mainGlobals "tuple" = some none) :
  ∃ fd : FuncData, (∀ (s : Shared) (v : Value), BindsTo s fd ⟨[v], []⟩ [("_law_script", v)]) ∧ ∀ base : Heap, K.In base → base.Ns mainGlobals mg → FnOk l.prog w K mg base CX0 24 fa fd ["_law_script"] (spLaw K) := by
  have e := hfa.symm.trans (PySem.W.mg_of X G a19)
  cases e
  let t : TA := ⟨f0, (PySem.W.fnOf "is_whole" "is_whole" (defArgs s_is_whole) (defBody s_is_whole) (defScope s_is_whole) .none kV0 dc0 pm0 an0 cd0 ct0), f1, (PySem.W.fnOf "chart_fault" "chart_fault" (defArgs s_chart_fault) (defBody s_chart_fault) (defScope s_chart_fault) .none kV1 dc1 pm1 an1 cd1 ct1), f2, (PySem.W.fnOf "require_chart" "require_chart" (defArgs s_require_chart) (defBody s_require_chart) (defScope s_require_chart) .none kV2 dc2 pm2 an2 cd2 ct2), f3, (PySem.W.fnOf "require_post" "require_post" (defArgs s_require_post) (defBody s_require_post) (defScope s_require_post) .none kV3 dc3 pm3 an3 cd3 ct3), f4, (PySem.W.fnOf "__init__" "Tree.__init__" (defArgs s_Tree_init) (defBody s_Tree_init) (defScope s_Tree_init) .none kV4 dc4 pm4 an4 cd4 ct4), f5, (PySem.W.fnOf "path" "Tree.path" (defArgs s_Tree_path) (defBody s_Tree_path) (defScope s_Tree_path) .none kV5 dc5 pm5 an5 cd5 ct5), f6, (PySem.W.fnOf "is_below" "Tree.is_below" (defArgs s_Tree_is_below) (defBody s_Tree_is_below) (defScope s_Tree_is_below) .none kV6 dc6 pm6 an6 cd6 ct6), f7, (PySem.W.fnOf "common" "Tree.common" (defArgs s_Tree_common) (defBody s_Tree_common) (defScope s_Tree_common) .none kV7 dc7 pm7 an7 cd7 ct7), f8, (PySem.W.fnOf "path_to" "path_to" (defArgs s_path_to) (defBody s_path_to) (defScope s_path_to) .none kV8 dc8 pm8 an8 cd8 ct8), f9, (PySem.W.fnOf "posts_below" "posts_below" (defArgs s_posts_below) (defBody s_posts_below) (defScope s_posts_below) .none kV9 dc9 pm9 an9 cd9 ct9), f10, (PySem.W.fnOf "common_post" "common_post" (defArgs s_common_post) (defBody s_common_post) (defScope s_common_post) .none kV10 dc10 pm10 an10 cd10 ct10), f11, (PySem.W.fnOf "_law_cell" "_law_cell" (defArgs s__law_cell) (defBody s__law_cell) (defScope s__law_cell) .none kV11 dc11 pm11 an11 cd11 ct11), f12, (PySem.W.fnOf "_law_hash" "_law_hash" (defArgs s__law_hash) (defBody s__law_hash) (defScope s__law_hash) .none kV12 dc12 pm12 an12 cd12 ct12), f13, (PySem.W.fnOf "_law_generator" "_law_generator" (defArgs s__law_generator) (defBody s__law_generator) (defScope s__law_generator) .none kV13 dc13 pm13 an13 cd13 ct13), f14, (PySem.W.fnOf "_law_random" "_law_random" (defArgs s__law_random) (defBody s__law_random) (defScope s__law_random) .none kV14 dc14 pm14 an14 cd14 ct14), f15, (PySem.W.fnOf "_law_random_chart" "_law_random_chart" (defArgs s__law_random_chart) (defBody s__law_random_chart) (defScope s__law_random_chart) .none kV15 dc15 pm15 an15 cd15 ct15), f16, (PySem.W.fnOf "_law_way" "_law_way" (defArgs s__law_way) (defBody s__law_way) (defScope s__law_way) .none kV16 dc16 pm16 an16 cd16 ct16), f17, (PySem.W.fnOf "_law_post_right" "_law_post_right" (defArgs s__law_post_right) (defBody s__law_post_right) (defScope s__law_post_right) .none kV17 dc17 pm17 an17 cd17 ct17), f18, (PySem.W.fnOf "_law_pair_right" "_law_pair_right" (defArgs s__law_pair_right) (defBody s__law_pair_right) (defScope s__law_pair_right) .none kV18 dc18 pm18 an18 cd18 ct18), fa, (PySem.W.fnOf "law" "law" (defArgs s_law) (defBody s_law) (defScope s_law) .none kV19 dc19 pm19 an19 cd19 ct19), c_Tree⟩
  have T : Tx K mg t := {
    F_is_whole := ⟨fun_mk (st := s_is_whole) l0 c0 k0, PySem.W.mg_of X G a0, (fun_mk (st := s_is_whole) l0 c0 k0).binds (ps := p_is_whole) fun _ _ _ _ _ _ us hl => match us, hl with | [_], _ => rfl⟩
    F_chart_fault := ⟨fun_mk (st := s_chart_fault) l1 c1 k1, PySem.W.mg_of X G a1, (fun_mk (st := s_chart_fault) l1 c1 k1).binds (ps := p_chart_fault) fun _ _ _ _ _ _ us hl => match us, hl with | [_], _ => rfl⟩
    F_require_chart := ⟨fun_mk (st := s_require_chart) l2 c2 k2, PySem.W.mg_of X G a2, (fun_mk (st := s_require_chart) l2 c2 k2).binds (ps := p_require_chart) fun _ _ _ _ _ _ us hl => match us, hl with | [_], _ => rfl⟩
    F_require_post := ⟨fun_mk (st := s_require_post) l3 c3 k3, PySem.W.mg_of X G a3, (fun_mk (st := s_require_post) l3 c3 k3).binds (ps := p_require_post) fun _ _ _ _ _ _ us hl => match us, hl with | [_, _], _ => rfl⟩
    M_Tree_init := ⟨fun_mk (st := s_Tree_init) l4 c4 k4, ⟨a4, i4, k4⟩, (fun_mk (st := s_Tree_init) l4 c4 k4).binds (ps := p_Tree_init) fun _ _ _ _ _ _ us hl => match us, hl with | [_, _], _ => rfl⟩
    M_Tree_path := ⟨fun_mk (st := s_Tree_path) l5 c5 k5, ⟨a5, i5, k5⟩, (fun_mk (st := s_Tree_path) l5 c5 k5).binds (ps := p_Tree_path) fun _ _ _ _ _ _ us hl => match us, hl with | [_, _], _ => rfl⟩
    M_Tree_is_below := ⟨fun_mk (st := s_Tree_is_below) l6 c6 k6, ⟨a6, i6, k6⟩, (fun_mk (st := s_Tree_is_below) l6 c6 k6).binds (ps := p_Tree_is_below) fun _ _ _ _ _ _ us hl => match us, hl with | [_, _, _], _ => rfl⟩
    M_Tree_common := ⟨fun_mk (st := s_Tree_common) l7 c7 k7, ⟨a7, i7, k7⟩, (fun_mk (st := s_Tree_common) l7 c7 k7).binds (ps := p_Tree_common) fun _ _ _ _ _ _ us hl => match us, hl with | [_, _, _], _ => rfl⟩
    F_path_to := ⟨fun_mk (st := s_path_to) l8 c8 k8, PySem.W.mg_of X G a8, (fun_mk (st := s_path_to) l8 c8 k8).binds (ps := p_path_to) fun _ _ _ _ _ _ us hl => match us, hl with | [_, _], _ => rfl⟩
    F_posts_below := ⟨fun_mk (st := s_posts_below) l9 c9 k9, PySem.W.mg_of X G a9, (fun_mk (st := s_posts_below) l9 c9 k9).binds (ps := p_posts_below) fun _ _ _ _ _ _ us hl => match us, hl with | [_, _], _ => rfl⟩
    F_common_post := ⟨fun_mk (st := s_common_post) l10 c10 k10, PySem.W.mg_of X G a10, (fun_mk (st := s_common_post) l10 c10 k10).binds (ps := p_common_post) fun _ _ _ _ _ _ us hl => match us, hl with | [_, _, _], _ => rfl⟩
    F__law_cell := ⟨fun_mk (st := s__law_cell) l11 c11 k11, PySem.W.mg_of X G a11, (fun_mk (st := s__law_cell) l11 c11 k11).binds (ps := p__law_cell) fun _ _ _ _ _ _ us hl => match us, hl with | [_, _], _ => rfl⟩
    F__law_hash := ⟨fun_mk (st := s__law_hash) l12 c12 k12, PySem.W.mg_of X G a12, (fun_mk (st := s__law_hash) l12 c12 k12).binds (ps := p__law_hash) fun _ _ _ _ _ _ us hl => match us, hl with | [_, _], _ => rfl⟩
    F__law_generator := ⟨fun_mk (st := s__law_generator) l13 c13 k13, PySem.W.mg_of X G a13, (fun_mk (st := s__law_generator) l13 c13 k13).binds (ps := p__law_generator) fun _ _ _ _ _ _ us hl => match us, hl with | [_, _], _ => rfl⟩
    F__law_random := ⟨fun_mk (st := s__law_random) l14 c14 k14, PySem.W.mg_of X G a14, (fun_mk (st := s__law_random) l14 c14 k14).binds (ps := p__law_random) fun _ _ _ _ _ _ us hl => match us, hl with | [_, _], _ => rfl⟩
    F__law_random_chart := ⟨fun_mk (st := s__law_random_chart) l15 c15 k15, PySem.W.mg_of X G a15, (fun_mk (st := s__law_random_chart) l15 c15 k15).binds (ps := p__law_random_chart) fun _ _ _ _ _ _ us hl => match us, hl with | [_, _], _ => rfl⟩
    F__law_way := ⟨fun_mk (st := s__law_way) l16 c16 k16, PySem.W.mg_of X G a16, (fun_mk (st := s__law_way) l16 c16 k16).binds (ps := p__law_way) fun _ _ _ _ _ _ us hl => match us, hl with | [_, _], _ => rfl⟩
    F__law_post_right := ⟨fun_mk (st := s__law_post_right) l17 c17 k17, PySem.W.mg_of X G a17, (fun_mk (st := s__law_post_right) l17 c17 k17).binds (ps := p__law_post_right) fun _ _ _ _ _ _ us hl => match us, hl with | [_, _], _ => rfl⟩
    F__law_pair_right := ⟨fun_mk (st := s__law_pair_right) l18 c18 k18, PySem.W.mg_of X G a18, (fun_mk (st := s__law_pair_right) l18 c18 k18).binds (ps := p__law_pair_right) fun _ _ _ _ _ _ us hl => match us, hl with | [_, _, _], _ => rfl⟩
    F_law := ⟨fun_mk (st := s_law) l19 c19 k19, PySem.W.mg_of X G a19, (fun_mk (st := s_law) l19 c19 k19).binds (ps := p_law) fun _ _ _ _ _ _ us hl => match us, hl with | [_], _ => rfl⟩
    C_Tree := ⟨⟨pg_Tree, hd_Tree, po_Tree, sa_Tree⟩, PySem.W.mg_of X G x_Tree⟩
    K_Tree := ⟨mk_Tree, a4, i4, kc_Tree⟩
    A_above := by
      refine ⟨by show 0 < 2; decide, fun c hc => ?_⟩
      simp only [List.mem_cons, List.not_mem_nil, or_false] at hc
      rcases hc with rfl
      · exact ⟨⟨pg_Tree, hd_Tree, po_Tree, sa_Tree⟩, at_above_Tree⟩
    A_below := by
      refine ⟨by show 1 < 2; decide, fun c hc => ?_⟩
      simp only [List.mem_cons, List.not_mem_nil, or_false] at hc
      rcases hc with rfl
      · exact ⟨⟨pg_Tree, hd_Tree, po_Tree, sa_Tree⟩, at_below_Tree⟩
    no_path := by
      have h : ∀ k : Fin 2, aname k ≠ "path" := by decide +kernel
      exact fun k hk => h ⟨k, hk⟩
    no_is_below := by
      have h : ∀ k : Fin 2, aname k ≠ "is_below" := by decide +kernel
      exact fun k hk => h ⟨k, hk⟩
    no_common := by
      have h : ∀ k : Fin 2, aname k ≠ "common" := by decide +kernel
      exact fun k hk => h ⟨k, hk⟩
    n_bool := PySem.W.mg_none_of X G z_bool
    n_enumerate := PySem.W.mg_none_of X G z_enumerate
    n_int := PySem.W.mg_none_of X G z_int
    n_isinstance := PySem.W.mg_none_of X G z_isinstance
    n_len := PySem.W.mg_none_of X G z_len
    n_max := PySem.W.mg_none_of X G z_max
    n_min := PySem.W.mg_none_of X G z_min
    n_range := PySem.W.mg_none_of X G z_range
    n_repr := PySem.W.mg_none_of X G z_repr
    n_str := PySem.W.mg_none_of X G z_str
    n_tuple := PySem.W.mg_none_of X G z_tuple }
  refine ⟨t.d_law, fun s v => .of_eq rfl, fun base _ _ => ?_⟩
  exact (os_all (P := l.prog) (w := w) (base := base) T 12).o_law.imp (law_imp (Z := zc K t) law_true)
theorem walk {l : PySem.W.OpenLaw} {q : Program} {loose : List Str} {XP : (Str → Option Value) → Heap → Prop} {YP : World → Heap → Prop} {d : DefRec} {K : Params → PySem.W.Frag} (hn : l.most = some 63) (hdf : d.params.defaults = [])
    (hY : ∀ (w : World) (h : Heap), YP w h → (K w.params).In h)
    (F : ∀ (w : World) (mg : Str → Option Value) (fa : Addr) (h : Heap), (K w.params).In h → h.Ns mainGlobals mg → mg d.name = some (.ref fa) →
      ∃ fd : FuncData, (∀ (s : Shared) (u : Value), BindsTo s fd ⟨[u], []⟩ [("_law_script", u)]) ∧ ∀ base : Heap, (K w.params).In base → base.Ns mainGlobals mg → FnOk l.prog w (K w.params) mg base CX0 24 fa fd ["_law_script"] (spLaw (K w.params))) :
    PySem.W.WalkO q loose XP YP l.row.toRowW d [] (fun f vs => PySem.call f vs) :=
  L2.walk_of (n := 63) (k := 24) (x := "_law_script") (CX := fun _ => CX0) (sp := fun w => spLaw (K w.params)) hn (by decide) hdf ⟨rfl, by decide, by decide⟩ hY F (fun _ _ a ns hl ho hS => ⟨a, ns, rfl, fz_of ho hS, hl, fun _ => rfl⟩) fun _ _ _ _ _ z => z
end LawP
open PySem PySem.W PyProof.Rows in
set_option maxRecDepth 100000 in
set_option maxHeartbeats 0 in
theorem PySem.Challenge.cw_movingup_k03_paths_and_posts_holds : PySem.Challenge.rw_movingup_k03_paths_and_posts.Holds := by
  w_on; o_law; k_head; (case hw => w_witness2)
  k_fill
  refine LawP.walk (l := PySem.Challenge.rw_movingup_k03_paths_and_posts) rfl rfl (fun w h Y => PySem.W.kIn_of Y) ?F
  case F =>
    intro w mg fa h KX G hmg
    refine' LawP.all_mk KX G hmg ?x_Tree ?pg_Tree ?hd_Tree ?po_Tree ?sa_Tree ?mk_Tree ?kc_Tree ?a0 ?l0 ?c0 ?k0 ?a1 ?l1 ?c1 ?k1 ?a2 ?l2 ?c2 ?k2 ?a3 ?l3 ?c3 ?k3 ?a4 ?i4 ?l4 ?c4 ?k4 ?a5 ?i5 ?l5 ?c5 ?k5 ?a6 ?i6 ?l6 ?c6 ?k6 ?a7 ?i7 ?l7 ?c7 ?k7 ?a8 ?l8 ?c8 ?k8 ?a9 ?l9 ?c9 ?k9 ?a10 ?l10 ?c10 ?k10 ?a11 ?l11 ?c11 ?k11 ?a12 ?l12 ?c12 ?k12 ?a13 ?l13 ?c13 ?k13 ?a14 ?l14 ?c14 ?k14 ?a15 ?l15 ?c15 ?k15 ?a16 ?l16 ?c16 ?k16 ?a17 ?l17 ?c17 ?k17 ?a18 ?l18 ?c18 ?k18 ?a19 ?l19 ?c19 ?k19 ?at_above_Tree ?at_below_Tree ?z_bool ?z_enumerate ?z_int ?z_isinstance ?z_len ?z_max ?z_min ?z_range ?z_repr ?z_str ?z_tuple
    (case x_Tree => k_is)
    (case pg_Tree => k_is)
    (case hd_Tree => k_is)
    (case po_Tree => k_is)
    (case sa_Tree => k_is)
    (case mk_Tree => k_is)
    (case kc_Tree => k_is)
    (case a0 => k_is)
    (case l0 => k_is)
    (case c0 => k_is)
    (case k0 => k_is)
    (case a1 => k_is)
    (case l1 => k_is)
    (case c1 => k_is)
    (case k1 => k_is)
    (case a2 => k_is)
    (case l2 => k_is)
    (case c2 => k_is)
    (case k2 => k_is)
    (case a3 => k_is)
    (case l3 => k_is)
    (case c3 => k_is)
    (case k3 => k_is)
    (case a4 => k_is)
    (case i4 => k_is)
    (case l4 => k_is)
    (case c4 => k_is)
    (case k4 => k_is)
    (case a5 => k_is)
    (case i5 => k_is)
    (case l5 => k_is)
    (case c5 => k_is)
    (case k5 => k_is)
    (case a6 => k_is)
    (case i6 => k_is)
    (case l6 => k_is)
    (case c6 => k_is)
    (case k6 => k_is)
    (case a7 => k_is)
    (case i7 => k_is)
    (case l7 => k_is)
    (case c7 => k_is)
    (case k7 => k_is)
    (case a8 => k_is)
    (case l8 => k_is)
    (case c8 => k_is)
    (case k8 => k_is)
    (case a9 => k_is)
    (case l9 => k_is)
    (case c9 => k_is)
    (case k9 => k_is)
    (case a10 => k_is)
    (case l10 => k_is)
    (case c10 => k_is)
    (case k10 => k_is)
    (case a11 => k_is)
    (case l11 => k_is)
    (case c11 => k_is)
    (case k11 => k_is)
    (case a12 => k_is)
    (case l12 => k_is)
    (case c12 => k_is)
    (case k12 => k_is)
    (case a13 => k_is)
    (case l13 => k_is)
    (case c13 => k_is)
    (case k13 => k_is)
    (case a14 => k_is)
    (case l14 => k_is)
    (case c14 => k_is)
    (case k14 => k_is)
    (case a15 => k_is)
    (case l15 => k_is)
    (case c15 => k_is)
    (case k15 => k_is)
    (case a16 => k_is)
    (case l16 => k_is)
    (case c16 => k_is)
    (case k16 => k_is)
    (case a17 => k_is)
    (case l17 => k_is)
    (case c17 => k_is)
    (case k17 => k_is)
    (case a18 => k_is)
    (case l18 => k_is)
    (case c18 => k_is)
    (case k18 => k_is)
    (case a19 => k_is)
    (case l19 => k_is)
    (case c19 => k_is)
    (case k19 => k_is)
    (case at_above_Tree => k_is)
    (case at_below_Tree => k_is)
    (case z_bool => k_is)
    (case z_enumerate => k_is)
    (case z_int => k_is)
    (case z_isinstance => k_is)
    (case z_len => k_is)
    (case z_max => k_is)
    (case z_min => k_is)
    (case z_range => k_is)
    (case z_repr => k_is)
    (case z_str => k_is)
    (case z_tuple => k_is)
