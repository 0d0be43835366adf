import PyProof.Rows.All
import Wide.All
import OpenK.AllK
import Wide.FinOn
import HandS.ForMost
import HandS.IsInst
import HandS.Zip
import HandS.Defaults
import HandS.More
import HandS.Codes
import KE.KStateDown
import HandS.Ends
import HandS.Words
import HandS.WordsExc
import HandS.Head0
import HandS.Head1
import HandS.Head2
import HandS.HeadEnd
import HandS.HeadHook1
import HandS.HeadHook2
import PySem.Challenge.RW_standfont_k02_names
set_option Elab.async false
set_option linter.all false
set_option maxRecDepth 100000
/-! Dv1: data, the small language, its evaluator. -/
namespace Dv
open PySem

/-- data; ref n: the n-th object of the store -/
inductive D where
  | non | bl (b : Bool) | int (i : Int) | str (s : List Nat)
  | tup (xs : List D) | lst (xs : List D)
  | ref (n : Nat)

abbrev Store := List D
inductive Res (α : Type) where
  | ok (a : α) (S : Store)
  | stuck
abbrev M (α : Type) := Store → Res α
def M.ret {α : Type} (a : α) : M α := fun S => .ok a S
def M.bind {α β : Type} (m : M α) (f : α → M β) : M β := fun S => match m S with
  | .ok a S' => f a S'
  | .stuck => .stuck
def M.fail {α : Type} : M α := fun _ => .stuck
def M.opt {α : Type} : Option α → M α
  | some a => M.ret a
  | none => M.fail

/-- a slot: a value, or a list that this def alone holds -/
inductive Sl where
  | val (d : D) | own (d : D)
abbrev Env := List (Option Sl)

inductive Bi where
  | add | sub | mul | fdiv | mod | pow
inductive Cm where
  | eq | ne | lt | le | gt | ge | in_ | notin
/-- built-ins of one argument -/
inductive B1 where
  | len | int | list | tuple | all | any
inductive Ty where
  | int | str | bool | list | tuple

mutual
inductive E where
  | var (i : Nat)
  | non | bl (b : Bool) | int (i : Int) | str (s : List Nat)
  | glob (g : Nat)
  | bin (o : Bi) (a b : E)
  | neg (a : E)
  | cmp (o : Cm) (a b : E)
  | isN (a : E) | isnotN (a : E)
  | chain (o p : Cm) (a b c : E)
  | and (a b : E) | or (a b : E) | not (a : E)
  | ite (t a b : E)
  | tup (es : Es) | lst (es : Es)
  | idx (a i : E)
  | cut (a : E) (lo hi : Eo)
  | b1 (f : B1) (a : E)
  | isin (a : E) (ts : List Ty)
  | join (s a : E)
  | call (f : Nat) (es : Es)
  | callK (f n m : Nat) (es ks : Es)
  | comp (own : List Nat) (elt : E) (tg : List Nat) (src : It) (cond : Eo)
inductive Es where
  | nil | cons (e : E) (es : Es)
inductive Eo where
  | none | some (e : E)
inductive It where
  | over (e : E)
  | range (e : E) | range2 (a b : E)
  | zip (a b : E) | enum (a : E)
end

abbrev line : Nat := 16777216

def view : D → M D
  | .ref n => fun S => match S[n]? with
    | some d => .ok d S
    | none => .stuck
  | d => M.ret d
def rd (ρ : Env) (i : Nat) : M D := match ρ[i]? with
  | some (some (.val d)) => M.ret d
  | _ => M.fail
def pk (ρ : Env) (i : Nat) : M D := match ρ[i]? with
  | some (some (.val d)) => M.ret d
  | some (some (.own d)) => M.ret d
  | _ => M.fail
/-- read, not kept -/
def peek (ρ : Env) (e : E) (m : M (D × Bool)) : M D := match e with
  | .var i => pk ρ i
  | _ => m.bind fun v => M.ret v.1
def D.v (d : D) : M (D × Bool) := M.ret (d, false)
def D.f (d : D) : M (D × Bool) := M.ret (d, true)
def guard {α : Type} (p : Prop) [Decidable p] (m : M α) : M α := if p then m else M.fail

def binop : Bi → D → D → M (D × Bool)
  | .add, .int i, .int j => (D.int (i + j)).v
  | .add, .str s, .str t => guard (s.length + t.length ≤ line) (D.str (s ++ t)).v
  | .add, .lst xs, .lst ys => guard (xs.length + ys.length ≤ line) (D.lst (xs ++ ys)).f
  | .sub, .int i, .int j => (D.int (i - j)).v
  | .mul, .int i, .int j => guard ((-(2 ^ 64) < i ∧ i < 2 ^ 64) ∨ (-(2 ^ 64) < j ∧ j < 2 ^ 64)) (D.int (i * j)).v
  | .mul, .lst xs, .int k => guard (-(2 ^ 63) ≤ k ∧ k < 2 ^ 63 ∧ xs.length * k.toNat ≤ line) (D.lst (List.replicate k.toNat xs).flatten).f
  | .fdiv, .int i, .int j => guard (j ≠ 0 ∧ j.natAbs < 1073741824) (D.int (i.fdiv j)).v
  | .mod, .int i, .int j => guard (j ≠ 0) (D.int (i.fmod j)).v
  | .pow, .int i, .int j => guard (0 ≤ j ∧ j ≤ 1000000 ∧ i.natAbs < 2 ^ 64) (D.int (i ^ j.toNat)).v
  | _, _, _ => M.fail

def b2i (b : Bool) : Int := if b then 1 else 0
def D.flat : D → Bool
  | .non => true
  | .bl _ => true
  | .int _ => true
  | .str _ => true
  | _ => false
def D.plain : Nat → D → Bool
  | _, .non => true
  | _, .bl _ => true
  | _, .int _ => true
  | _, .str _ => true
  | n + 1, .tup xs => xs.all (D.plain n)
  | n + 1, .lst xs => xs.all (D.plain n)
  | _, _ => false
mutual
def D.eqv : D → D → Bool
  | .non, .non => true
  | .bl a, .bl b => a == b
  | .bl a, .int j => b2i a == j
  | .int i, .bl b => i == b2i b
  | .int i, .int j => i == j
  | .str x, .str y => x == y
  | .tup xs, .tup ys => D.eqvs xs ys
  | .lst xs, .lst ys => D.eqvs xs ys
  | _, _ => false
def D.eqvs : List D → List D → Bool
  | [], [] => true
  | x :: xs, y :: ys => D.eqv x y && D.eqvs xs ys
  | _, _ => false
end
/-- a list of flat things -/
def D.flat1 : D → Bool
  | .lst xs => xs.all D.flat
  | .tup xs => xs.all D.flat
  | _ => false
def D.its : D → List D
  | .lst xs => xs
  | .tup xs => xs
  | _ => []

def cmpop : Cm → D → D → M Bool
  | .lt, .int i, .int j => M.ret (decide (i < j))
  | .le, .int i, .int j => M.ret (decide (i ≤ j))
  | .gt, .int i, .int j => M.ret (decide (j < i))
  | .ge, .int i, .int j => M.ret (decide (j ≤ i))
  | .eq, x, y => guard (D.plain 20 x = true ∧ D.plain 20 y = true) (M.ret (D.eqv x y))
  | .ne, x, y => guard (D.plain 20 x = true ∧ D.plain 20 y = true) (M.ret (!D.eqv x y))
  | .in_, .str [c], .str s => M.ret (s.contains c)
  | .notin, .str [c], .str s => M.ret (!s.contains c)
  | .in_, x, y => guard (x.flat = true ∧ y.flat1 = true) (M.ret (y.its.any fun z => D.eqv z x))
  | .notin, x, y => guard (x.flat = true ∧ y.flat1 = true) (M.ret (!(y.its.any fun z => D.eqv z x)))
  | _, _, _ => M.fail

def cmpV (o : Cm) (x y : D) : M Bool := (view x).bind fun x => (view y).bind fun y => cmpop o x y

def asB : D → M Bool
  | .bl b => M.ret b
  | _ => M.fail
def asI : D → M Int
  | .int i => M.ret i
  | _ => M.fail
def ixN (n : Nat) (i : Int) : Option Nat := if 0 ≤ i then (if i < n then some i.toNat else none) else if -(n : Int) ≤ i then some (i + n).toNat else none
def index : D → D → M D
  | .lst xs, .int i => M.opt ((ixN xs.length i).bind fun j => xs[j]?)
  | .tup xs, .int i => M.opt ((ixN xs.length i).bind fun j => xs[j]?)
  | .str s, .int i => guard (s.length ≤ line) (M.opt ((ixN s.length i).bind fun j => (s[j]?).map fun c => D.str [c]))
  | _, _ => M.fail
def cutL {α : Type} (xs : List α) (lo hi : Option Int) : List α := (xs.drop (HT.sIx xs.length 0 lo)).take (HT.sIx xs.length xs.length hi - HT.sIx xs.length 0 lo)
def cutop : D → Option Int → Option Int → M (D × Bool)
  | .lst xs, lo, hi => (D.lst (cutL xs lo hi)).f
  | .str s, lo, hi => guard (s.length ≤ line) (D.str (cutL s lo hi)).v
  | _, _, _ => M.fail
def allB : List D → Option (List Bool)
  | [] => some []
  | .bl b :: r => (allB r).map (b :: ·)
  | _ :: _ => none
def allS : List D → Option (List (List Nat))
  | [] => some []
  | .str b :: r => (allS r).map (b :: ·)
  | _ :: _ => none
def b1op : B1 → D → M (D × Bool)
  | .len, .lst xs => (D.int xs.length).v
  | .len, .tup xs => (D.int xs.length).v
  | .len, .str s => guard (s.length ≤ line) (D.int s.length).v
  | .int, .int i => (D.int i).v
  | .int, .bl b => (D.int (b2i b)).v
  | .list, .lst xs => (D.lst xs).f
  | .list, .tup xs => (D.lst xs).f
  | .all, .lst xs => (M.opt (allB xs)).bind fun bs => (D.bl (bs.all id)).v
  | .any, .lst xs => (M.opt (allB xs)).bind fun bs => (D.bl (bs.any id)).v
  | _, _ => M.fail
def Ty.has : Ty → D → Bool
  | .int, .int _ => true
  | .int, .bl _ => true
  | .str, .str _ => true
  | .bool, .bl _ => true
  | .list, .lst _ => true
  | .tuple, .tup _ => true
  | _, _ => false
def noRef : D → Bool
  | .ref _ => false
  | _ => true
def joinop : D → D → M D
  | .str s, .lst xs => (M.opt (allS xs)).bind fun ts => guard ((ts.map List.length).sum + ts.length * s.length ≤ line) (M.ret (.str (TL.joinL s ts)))
  | _, _ => M.fail
def items : D → M (List D)
  | .lst xs => M.ret xs
  | .tup xs => M.ret xs
  | .str s => M.ret (s.map fun c => .str [c])
  | _ => M.fail
def rangeL (i j : Int) : List D := (List.range (j - i).toNat).map fun (k : Nat) => .int (i + (k : Int))
def small (i : Int) : Prop := -(2 ^ 62) ≤ i ∧ i < 2 ^ 62
instance (i : Int) : Decidable (small i) := inferInstanceAs (Decidable (_ ∧ _))
def zipop : D → D → M (List D)
  | .lst xs, .lst ys => M.ret ((xs.zip ys).map fun p => .tup [p.1, p.2])
  | .tup xs, .tup ys => M.ret ((xs.zip ys).map fun p => .tup [p.1, p.2])
  | _, _ => M.fail
def enumop : D → M (List D)
  | .lst xs => M.ret (((List.range xs.length).zip xs).map fun p => .tup [.int p.1, p.2])
  | _ => M.fail
def wipe (ρ : Env) : List Nat → Env
  | [] => ρ
  | v :: vs => (wipe ρ vs).set v none
/-- the targets of a loop -/
def put (ρ : Env) : List Nat → D → Option Env
  | [i], d => some (ρ.set i (some (.val d)))
  | [i, j], .tup [a, b] => some ((ρ.set i (some (.val a))).set j (some (.val b)))
  | _, _ => none
def mapF (f : D → M (Option D)) : List D → M (List D)
  | [] => M.ret []
  | x :: r => (f x).bind fun o => (mapF f r).bind fun ys => M.ret (match o with | some y => y :: ys | none => ys)

section
variable (G : List D) (call : Nat → List D → M (D × Bool))
mutual
def evalE (ρ : Env) : E → M (D × Bool)
  | .var i => (rd ρ i).bind D.v
  | .non => D.non.v
  | .bl b => (D.bl b).v
  | .int i => (D.int i).v
  | .str s => (D.str s).v
  | .glob g => (M.opt G[g]?).bind D.v
  | .bin o a b => (peek ρ a (evalE ρ a)).bind fun x => (peek ρ b (evalE ρ b)).bind fun y => (view x).bind fun x => (view y).bind fun y => binop o x y
  | .neg a => (evalE ρ a).bind fun x => (asI x.1).bind fun i => (D.int (-i)).v
  | .cmp o a b => (peek ρ a (evalE ρ a)).bind fun x => (peek ρ b (evalE ρ b)).bind fun y => (cmpV o x y).bind fun c => (D.bl c).v
  | .isN a => (evalE ρ a).bind fun x => (D.bl (match x.1 with | .non => true | _ => false)).v
  | .isnotN a => (evalE ρ a).bind fun x => (D.bl (match x.1 with | .non => false | _ => true)).v
  | .chain o p a b c => (peek ρ a (evalE ρ a)).bind fun x => (peek ρ b (evalE ρ b)).bind fun y => (cmpV o x y).bind fun k =>
      if k then (peek ρ c (evalE ρ c)).bind fun z => (cmpV p y z).bind fun k' => (D.bl k').v else (D.bl false).v
  | .and a b => (evalE ρ a).bind fun x => (asB x.1).bind fun k => if k then evalE ρ b else (D.bl false).v
  | .or a b => (evalE ρ a).bind fun x => (asB x.1).bind fun k => if k then (D.bl true).v else evalE ρ b
  | .not a => (evalE ρ a).bind fun x => (asB x.1).bind fun k => (D.bl !k).v
  | .ite t a b => (evalE ρ t).bind fun x => (asB x.1).bind fun k => if k then evalE ρ a else evalE ρ b
  | .tup es => (evalEs ρ es).bind fun xs => guard (xs.length ≤ line) (D.tup xs).v
  | .lst es => (evalEs ρ es).bind fun xs => guard (xs.length ≤ line) (D.lst xs).f
  | .idx a i => (peek ρ a (evalE ρ a)).bind fun x => (evalE ρ i).bind fun k => (view x).bind fun x => (index x k.1).bind D.v
  | .cut a lo hi => (peek ρ a (evalE ρ a)).bind fun x => (evalEo ρ lo).bind fun l => (evalEo ρ hi).bind fun h => (view x).bind fun x => cutop x l h
  | .b1 f a => (peek ρ a (evalE ρ a)).bind fun x => (view x).bind fun x => b1op f x
  | .isin a ts => (peek ρ a (evalE ρ a)).bind fun x => (view x).bind fun x => guard (noRef x = true) (D.bl (ts.any fun t => t.has x)).v
  | .join s a => (evalE ρ s).bind fun x => (peek ρ a (evalE ρ a)).bind fun y => (view y).bind fun y => (joinop x.1 y).bind D.v
  | .call f es => (evalEs ρ es).bind fun xs => call f xs
  | .callK f n m es ks => (evalEs ρ es).bind fun xs => (evalEs ρ ks).bind fun zs => guard (xs.length = n ∧ zs.length = m) (call f (xs ++ zs))
  | .comp own elt tg src cond => (evalIt ρ src).bind fun xs => guard (xs.length ≤ line)
      ((mapF (fun x => (M.opt (put (wipe ρ own) tg x)).bind fun ρ' => (evalB ρ' cond).bind fun k => if k then (evalE ρ' elt).bind fun y => M.ret (some y.1) else M.ret none) xs).bind fun ys => (D.lst ys).f)
def evalEs (ρ : Env) : Es → M (List D)
  | .nil => M.ret []
  | .cons e es => (evalE ρ e).bind fun x => (evalEs ρ es).bind fun xs => M.ret (x.1 :: xs)
def evalEo (ρ : Env) : Eo → M (Option Int)
  | .none => M.ret none
  | .some e => (evalE ρ e).bind fun x => (asI x.1).bind fun i => M.ret (some i)
def evalB (ρ : Env) : Eo → M Bool
  | .none => M.ret true
  | .some e => (evalE ρ e).bind fun x => asB x.1
def evalIt (ρ : Env) : It → M (List D)
  | .over e => (peek ρ e (evalE ρ e)).bind items
  | .range e => (evalE ρ e).bind fun x => (asI x.1).bind fun j => guard (small j) (M.ret (rangeL 0 j))
  | .range2 a b => (evalE ρ a).bind fun x => (evalE ρ b).bind fun y => (asI x.1).bind fun i => (asI y.1).bind fun j => guard (small i ∧ small j) (M.ret (rangeL i j))
  | .zip a b => (peek ρ a (evalE ρ a)).bind fun x => (peek ρ b (evalE ρ b)).bind fun y => zipop x y
  | .enum a => (peek ρ a (evalE ρ a)).bind enumop
end
end

/-! ### statements -/
mutual
inductive Sm where
  /-- x = e, the value is kept as it is -/
  | set (i : Nat) (e : E)
  /-- x = e, a new list that this def alone holds -/
  | own (i : Nat) (e : E)
  /-- x = e, a new list that goes into the store -/
  | sha (i : Nat) (e : E)
  /-- a, b = e1, e2 -/
  | par (i j : Nat) (a b : E)
  /-- a, b, .. = e, a tuple -/
  | tupS (is : List Nat) (e : E)
  | ret (e : E) | retN
  | if_ (t : E) (a b : Ss)
  | for_ (tg : List Nat) (src : It) (body : Ss)
  | while_ (t : E) (body : Ss)
  | expr (e : E)
  /-- x.append(e), x an own list -/
  | app (i : Nat) (e : E)
  /-- x.insert(k, e) -/
  | ins (i : Nat) (k e : E)
  /-- y = x.pop(e) -/
  | pop (y i : Nat) (e : E)
  /-- x[k] = e, x an own list -/
  | putI (i : Nat) (k e : E)
  /-- a[k] = e, a an object of the store -/
  | putR (a k e : E)
  /-- an own list is left to all -/
  | frz (i : Nat)
  | pass | brk | cont
inductive Ss where
  | nil | cons (s : Sm) (r : Ss)
end
inductive SR where
  | nx (ρ : Env) | ret (v : D × Bool) | brk (ρ : Env) | ct (ρ : Env)
def isSeq : D → Bool
  | .lst _ => true
  | _ => false
def forF (f : D → Env → M SR) : List D → Env → M SR
  | [], ρ => M.ret (.nx ρ)
  | x :: r, ρ => (f x ρ).bind fun o => match o with
    | .nx ρ' => forF f r ρ'
    | .ct ρ' => forF f r ρ'
    | .brk ρ' => M.ret (.nx ρ')
    | .ret v => M.ret (.ret v)
def whileF (t : Env → M Bool) (f : Env → M SR) : Nat → Env → M SR
  | 0, _ => M.fail
  | n + 1, ρ => (t ρ).bind fun k => if k then (f ρ).bind fun o => match o with
    | .nx ρ' => whileF t f n ρ'
    | .ct ρ' => whileF t f n ρ'
    | .brk ρ' => M.ret (.nx ρ')
    | .ret v => M.ret (.ret v)
    else M.ret (.nx ρ)
abbrev turns : Nat := 18446744073709551616
def ownOf (ρ : Env) (i : Nat) : M D := match ρ[i]? with
  | some (some (.own d)) => M.ret d
  | _ => M.fail
def asL : D → M (List D)
  | .lst xs => M.ret xs
  | _ => M.fail
def newO (d : D) : M D := fun S => .ok (.ref S.length) (S ++ [d])
/-- the object that a reference names, and its place -/
def objOf (d : D) : M (Nat × D) := match d with
  | .ref n => fun S => match S[n]? with
    | some o => .ok (n, o) S
    | none => .stuck
  | _ => M.fail
def D.under (n : Nat) : D → Bool
  | .non => true
  | .bl _ => true
  | .int _ => true
  | .str _ => true
  | .ref k => decide (k < n)
  | .tup _ => false
  | .lst _ => false
def setO (n : Nat) (d : D) : M Unit := fun S => .ok () (S.set n d)
def putVals (ρ : Env) : List Nat → List D → Option Env
  | [], [] => some ρ
  | i :: is, d :: ds => putVals (ρ.set i (some (.val d))) is ds
  | _, _ => none
def isOwn (ρ : Env) (i : Nat) : Bool := match ρ[i]? with
  | some (some (.own _)) => true
  | _ => false
def ownE (ρ : Env) : E → Bool
  | .var i => isOwn ρ i
  | _ => false
def noOwn (ρ : Env) : It → Bool
  | .over e => !ownE ρ e
  | .zip a b => !ownE ρ a && !ownE ρ b
  | .enum a => !ownE ρ a
  | _ => true
section
variable (G : List D) (call : Nat → List D → M (D × Bool))
mutual
def exec : Sm → Env → M SR
  | .set i e, ρ => (evalE G call ρ e).bind fun x => M.ret (.nx (ρ.set i (some (.val x.1))))
  | .own i e, ρ => (evalE G call ρ e).bind fun x => guard (x.2 = true) (M.ret (.nx (ρ.set i (some (.own x.1)))))
  | .sha i e, ρ => (evalE G call ρ e).bind fun x => guard (x.2 = true) ((newO x.1).bind fun r => M.ret (.nx (ρ.set i (some (.val r)))))
  | .par i j a b, ρ => (evalE G call ρ a).bind fun x => (evalE G call ρ b).bind fun y => M.ret (.nx ((ρ.set i (some (.val x.1))).set j (some (.val y.1))))
  | .tupS is e, ρ => (evalE G call ρ e).bind fun x => match x.1 with
    | .tup xs => (M.opt (putVals ρ is xs)).bind fun ρ' => M.ret (.nx ρ')
    | _ => M.fail
  | .ret e, ρ => match e with
    | .var i => (match ρ[i]? with
      | some (some (.own d)) => M.ret (.ret (d, true))
      | some (some (.val d)) => M.ret (.ret (d, false))
      | _ => M.fail)
    | e => (evalE G call ρ e).bind fun x => M.ret (.ret x)
  | .retN, _ => M.ret (.ret (.non, false))
  | .if_ t a b, ρ => (evalE G call ρ t).bind fun x => (asB x.1).bind fun k => if k then execs a ρ else execs b ρ
  | .for_ tg src body, ρ => guard (noOwn ρ src = true) <| (evalIt G call ρ src).bind fun xs => guard (xs.length ≤ line) (forF (fun x ρ => (M.opt (put ρ tg x)).bind fun ρ' => execs body ρ') xs ρ)
  | .while_ t body, ρ => whileF (fun ρ => (evalE G call ρ t).bind fun x => asB x.1) (fun ρ => execs body ρ) turns ρ
  | .expr e, ρ => (evalE G call ρ e).bind fun _ => M.ret (.nx ρ)
  | .app i e, ρ => (ownOf ρ i).bind fun o => (asL o).bind fun xs => (evalE G call ρ e).bind fun y => guard (xs.length < line) (M.ret (.nx (ρ.set i (some (.own (.lst (xs ++ [y.1])))))))
  | .ins i k e, ρ => (ownOf ρ i).bind fun o => (asL o).bind fun xs => (evalE G call ρ k).bind fun kk => (asI kk.1).bind fun j => (evalE G call ρ e).bind fun y =>
      guard (xs.length < line ∧ 0 ≤ j ∧ j ≤ xs.length) (M.ret (.nx (ρ.set i (some (.own (.lst (xs.take j.toNat ++ y.1 :: xs.drop j.toNat)))))))
  | .pop y i e, ρ => (ownOf ρ i).bind fun o => (asL o).bind fun xs => (evalE G call ρ e).bind fun kk => (asI kk.1).bind fun j =>
      guard (0 ≤ j ∧ j < xs.length ∧ j < 2 ^ 63) ((M.opt xs[j.toNat]?).bind fun v => M.ret (.nx ((ρ.set i (some (.own (.lst (xs.eraseIdx j.toNat))))).set y (some (.val v)))))
  | .putI i k e, ρ => (evalE G call ρ e).bind fun y => (ownOf ρ i).bind fun o => (asL o).bind fun xs => (evalE G call ρ k).bind fun kk => (asI kk.1).bind fun j =>
      (M.opt (ixN xs.length j)).bind fun p => M.ret (.nx (ρ.set i (some (.own (.lst (xs.set p y.1))))))
  | .putR a k e, ρ => (evalE G call ρ e).bind fun y => (evalE G call ρ a).bind fun r => (evalE G call ρ k).bind fun kk => (asI kk.1).bind fun j => (objOf r.1).bind fun o => (asL o.2).bind fun xs =>
      guard (y.1.under o.1 = true) ((M.opt (ixN xs.length j)).bind fun p => (setO o.1 (.lst (xs.set p y.1))).bind fun _ => M.ret (.nx ρ))
  | .frz i, ρ => (ownOf ρ i).bind fun o => M.ret (.nx (ρ.set i (some (.val o))))
  | .pass, ρ => M.ret (.nx ρ)
  | .brk, ρ => M.ret (.brk ρ)
  | .cont, ρ => M.ret (.ct ρ)
def execs : Ss → Env → M SR
  | .nil, ρ => M.ret (.nx ρ)
  | .cons s r, ρ => (exec s ρ).bind fun o => match o with
    | .nx ρ' => execs r ρ'
    | o => M.ret o
end
end

/-! ### defs -/
structure Fn where
  np : Nat
  ns : Nat
  body : Ss
def body (G : List D) (call : Nat → List D → M (D × Bool)) (f : Fn) (xs : List D) : M (D × Bool) :=
  guard (xs.length = f.np) ((execs G call f.body (xs.map (fun d => some (.val d)) ++ List.replicate (f.ns - f.np) none)).bind fun o => match o with
    | .ret v => M.ret v
    | .nx _ => D.non.v
    | _ => M.fail)
/-- a form of a call: the def, the values' places in the parameters' order -/
structure Cf where
  f : Nat
  kw : Bool
  src : List Nat
def pick {α : Type} (src : List Nat) (xs : List α) : List α := src.filterMap fun i => xs[i]?
def callF (G : List D) (F : List Fn) (SH : List Cf) : Nat → Nat → List D → M (D × Bool)
  | 0, _, _ => M.fail
  | n + 1, f, xs => (M.opt F[f]?).bind fun fn => body G (fun s ds => (M.opt SH[s]?).bind fun q => callF G F SH n q.f (if q.kw then pick q.src ds else ds)) fn xs
abbrev callS (G : List D) (F : List Fn) (SH : List Cf) (n : Nat) : Nat → List D → M (D × Bool) := fun s ds => (M.opt SH[s]?).bind fun q => callF G F SH n q.f (if q.kw then pick q.src ds else ds)
end Dv

set_option Elab.async false
set_option linter.all false
set_option maxRecDepth 100000
set_option maxHeartbeats 1000000
/-! Dv2: how data stand in the heap. -/
namespace Dv
open PySem PySem.Spec PyProof.Rows L2

/-- the module's own lists have no slots -/
def KL (K : PySem.W.Frag) : Prop := ∀ a o, K.lookup a = some o → o.cls = .type "list" → o.slots = #[]
/-- a list that no one changes -/
def SqF (K : PySem.W.Frag) (H : Hp) (a : Addr) (xs : List V) : Prop := (∃ o, H a = some (.frz o (.lst xs))) ∨
  ∃ (o : Obj) (its : Array Value) (n : Nat), K.lookup a = some o ∧ o.cls = .type "list" ∧ o.dict = none ∧ o.data = .seq its n ∧ its.size ≤ sizeLine ∧ Vals xs its.toList
theorem SqF.sql {K : PySem.W.Frag} {H : Hp} {a : Addr} {xs : List V} (h : SqF K H a xs) : SqL K H a xs := by
  rcases h with ⟨o, h⟩ | h
  · exact .inl (.inr ⟨o, h⟩)
  · exact .inr h
theorem SqF.up {K : PySem.W.Frag} {H H' : Hp} {a : Addr} {xs : List V} (f : ∀ b o u, H b = some (.frz o u) → H' b = some (.frz o u)) (h : SqF K H a xs) : SqF K H' a xs := by
  rcases h with ⟨o, h⟩ | h
  · exact .inl ⟨o, f _ _ _ h⟩
  · exact .inr h
section
variable (K : PySem.W.Frag) (H : Hp) (ι : List Addr)
mutual
inductive FV : V → D → Prop
  | non : FV .non .non
  | bl (b : Bool) : FV (.bl b) (.bl b)
  | int (i : Int) : FV (.int i) (.int i)
  | str (s : List Nat) : (∀ c ∈ s, c < 0x110000) → FV (.str ⟨s.toArray⟩) (.str s)
  | ref {n : Nat} {a : Addr} : ι[n]? = some a → FV (.ref a) (.ref n)
  | tup {a : Addr} {xs : List V} {ds : List D} : SqT K H a xs → FVs xs ds → FV (.ref a) (.tup ds)
  | lst {a : Addr} {xs : List V} {ds : List D} : SqF K H a xs → FVs xs ds → FV (.ref a) (.lst ds)
inductive FVs : List V → List D → Prop
  | nil : FVs [] []
  | cons {v : V} {vs : List V} {d : D} {ds : List D} : FV v d → FVs vs ds → FVs (v :: vs) (d :: ds)
end
/-- an object that may be changed -/
def MOr (a : Addr) (d : D) : Prop := ∃ ds xs, d = .lst ds ∧ H a = some (.lst xs) ∧ FVs K H ι xs ds
/-- what may be read now -/
def RV (v : V) (d : D) : Prop := FV K H ι v d ∨ ∃ a, v = .ref a ∧ MOr K H ι a d
structure StR (S : Store) : Prop where
  len : ι.length = S.length
  nd : ι.Nodup
  obj : ∀ (n : Nat) (a : Addr) (d : D), ι[n]? = some a → S[n]? = some d → MOr K H ι a d
structure EnvR (ρ : Env) (σ : L2.St) : Prop where
  len : ρ.length = σ.length
  val : ∀ (i : Nat) (d : D), ρ[i]? = some (some (.val d)) → ∃ v, σ[i]? = some (some v) ∧ FV K H ι v d
  own : ∀ (i : Nat) (d : D), ρ[i]? = some (some (.own d)) → ∃ a, σ[i]? = some (some (.ref a)) ∧ MOr K H ι a d ∧ a ∉ ι
  dj : ∀ (i j : Nat) (d e : D) (a : Addr), ρ[i]? = some (some (.own d)) → ρ[j]? = some (some (.own e)) → σ[i]? = some (some (.ref a)) → σ[j]? = some (some (.ref a)) → i = j
end
/-- behind an expression -/
structure Post (K : PySem.W.Frag) (ι : List Addr) (H : Hp) (S' : Store) (ι' : List Addr) (H' : Hp) : Prop where
  tups : ∀ b xs, H b = some (.tup xs) → H' b = some (.tup xs)
  frzs : ∀ b o u, H b = some (.frz o u) → H' b = some (.frz o u)
  keep : ∀ b o, H b = some o → b ∉ ι → H' b = some o
  pre : ∃ more, ι' = ι ++ more ∧ ∀ a ∈ more, H a = none
  st : StR K H' ι' S'
/-- its value -/
def VR (K : PySem.W.Frag) (H H' : Hp) (ι' : List Addr) (v : V) (x : D × Bool) : Prop :=
  match x.2 with
  | true => ∃ a, v = .ref a ∧ H a = none ∧ a ∉ ι' ∧ MOr K H' ι' a x.1
  | false => FV K H' ι' v x.1

section
variable {K : PySem.W.Frag} {H H' H1 H2 : Hp} {ι ι' ι1 ι2 : List Addr} {S S' S1 S2 : Store} {ρ : Env} {σ : L2.St}

theorem SqT.up (t : ∀ b xs, H b = some (.tup xs) → H' b = some (.tup xs)) (f : ∀ b o u, H b = some (.frz o u) → H' b = some (.frz o u)) {a : Addr} {xs : List V} (h : SqT K H a xs) : SqT K H' a xs := by
  rcases h with (h | ⟨o, h⟩) | h
  · exact .inl (.inl (t _ _ h))
  · exact .inl (.inr ⟨o, f _ _ _ h⟩)
  · exact .inr h
mutual
theorem FV.up (t : ∀ b xs, H b = some (.tup xs) → H' b = some (.tup xs)) (f : ∀ b o u, H b = some (.frz o u) → H' b = some (.frz o u)) (p : ∀ (n : Nat) (a : Addr), ι[n]? = some a → ι'[n]? = some a) :
    ∀ {d : D} {v : V}, FV K H ι v d → FV K H' ι' v d
  | .non, _, h => by cases h; exact .non
  | .bl b, _, h => by cases h; exact .bl b
  | .int i, _, h => by cases h; exact .int i
  | .str s, _, h => by cases h with | str _ h => exact .str _ h
  | .ref n, _, h => by cases h with | ref h => exact .ref (p _ _ h)
  | .tup ds, _, h => by cases h with | tup h1 h2 => exact .tup (SqT.up t f h1) (FVs.up t f p h2)
  | .lst ds, _, h => by cases h with | lst h1 h2 => exact .lst (h1.up f) (FVs.up t f p h2)
theorem FVs.up (t : ∀ b xs, H b = some (.tup xs) → H' b = some (.tup xs)) (f : ∀ b o u, H b = some (.frz o u) → H' b = some (.frz o u)) (p : ∀ (n : Nat) (a : Addr), ι[n]? = some a → ι'[n]? = some a) :
    ∀ {ds : List D} {vs : List V}, FVs K H ι vs ds → FVs K H' ι' vs ds
  | [], _, h => by cases h; exact .nil
  | d :: ds, _, h => by cases h with | cons h1 h2 => exact .cons (FV.up t f p h1) (FVs.up t f p h2)
end
theorem FVs.length : ∀ {vs : List V} {ds : List D}, FVs K H ι vs ds → vs.length = ds.length
  | _, _, .nil => rfl
  | _, _, .cons _ h => by simp [FVs.length h]
theorem FVs.get : ∀ {vs : List V} {ds : List D}, FVs K H ι vs ds → ∀ {i : Nat} {d : D}, ds[i]? = some d → ∃ v, vs[i]? = some v ∧ FV K H ι v d
  | _, _, .nil, i, d, e => by simp at e
  | _, _, .cons h _, 0, d, e => by simp at e; subst e; exact ⟨_, rfl, h⟩
  | _, _, .cons _ h, i + 1, d, e => by
    obtain ⟨v, e1, e2⟩ := FVs.get h (i := i) (d := d) (by simpa using e)
    exact ⟨v, by simpa using e1, e2⟩
theorem FVs.getV : ∀ {vs : List V} {ds : List D}, FVs K H ι vs ds → ∀ {i : Nat} {v : V}, vs[i]? = some v → ∃ d, ds[i]? = some d ∧ FV K H ι v d
  | _, _, .nil, i, d, e => by simp at e
  | _, _, .cons h _, 0, d, e => by simp at e; subst e; exact ⟨_, rfl, h⟩
  | _, _, .cons _ h, i + 1, d, e => by
    obtain ⟨v, e1, e2⟩ := FVs.getV h (i := i) (v := d) (by simpa using e)
    exact ⟨v, by simpa using e1, e2⟩
theorem FVs.append : ∀ {vs ws : List V} {ds es : List D}, FVs K H ι vs ds → FVs K H ι ws es → FVs K H ι (vs ++ ws) (ds ++ es)
  | _, _, _, _, .nil, s => s
  | _, _, _, _, .cons r t, s => .cons r (FVs.append t s)
theorem FVs.take : ∀ {vs : List V} {ds : List D} (n : Nat), FVs K H ι vs ds → FVs K H ι (vs.take n) (ds.take n)
  | _, _, 0, _ => .nil
  | _, _, _ + 1, .nil => .nil
  | _, _, n + 1, .cons r t => .cons r (FVs.take n t)
theorem FVs.drop : ∀ {vs : List V} {ds : List D} (n : Nat), FVs K H ι vs ds → FVs K H ι (vs.drop n) (ds.drop n)
  | _, _, 0, r => r
  | _, _, _ + 1, .nil => .nil
  | _, _, n + 1, .cons _ t => FVs.drop n t
theorem FVs.set {v : V} {d : D} (r : FV K H ι v d) : ∀ {vs : List V} {ds : List D} (i : Nat), FVs K H ι vs ds → FVs K H ι (vs.set i v) (ds.set i d)
  | _, _, _, .nil => .nil
  | _, _, 0, .cons _ t => .cons r t
  | _, _, i + 1, .cons q t => .cons q (FVs.set r i t)
theorem FVs.eraseIdx : ∀ {vs : List V} {ds : List D} (i : Nat), FVs K H ι vs ds → FVs K H ι (vs.eraseIdx i) (ds.eraseIdx i)
  | _, _, _, .nil => .nil
  | _, _, 0, .cons _ t => t
  | _, _, i + 1, .cons q t => .cons q (FVs.eraseIdx i t)
theorem FVs.rep {vs : List V} {ds : List D} (h : FVs K H ι vs ds) : ∀ k : Nat, FVs K H ι (List.replicate k vs).flatten (List.replicate k ds).flatten
  | 0 => .nil
  | k + 1 => by
    rw [List.replicate_succ, List.replicate_succ, List.flatten_cons, List.flatten_cons]
    exact h.append (FVs.rep h k)

theorem pre_get {more : List Addr} (e : ι' = ι ++ more) (n : Nat) (a : Addr) (h : ι[n]? = some a) : ι'[n]? = some a := by
  subst e
  rw [List.getElem?_append_left (List.getElem?_eq_some_iff.mp h).1]
  exact h
theorem Post.upV (P : Post K ι H S' ι' H') {v : V} {d : D} (h : FV K H ι v d) : FV K H' ι' v d := by
  obtain ⟨more, e, _⟩ := P.pre
  exact h.up P.tups P.frzs (pre_get e)
theorem Post.upVs (P : Post K ι H S' ι' H') {v : List V} {d : List D} (h : FVs K H ι v d) : FVs K H' ι' v d := by
  obtain ⟨more, e, _⟩ := P.pre
  exact h.up P.tups P.frzs (pre_get e)
theorem Post.out (P : Post K ι H S' ι' H') {a : Addr} {o : HO} (h : H a = some o) (ha : a ∉ ι) : a ∉ ι' := by
  obtain ⟨more, e, hm⟩ := P.pre
  subst e
  intro z
  rcases List.mem_append.mp z with z | z
  · exact ha z
  · rw [hm a z] at h; cases h
theorem Post.upM (P : Post K ι H S' ι' H') {a : Addr} {d : D} (h : MOr K H ι a d) (ha : a ∉ ι) : MOr K H' ι' a d ∧ a ∉ ι' := by
  obtain ⟨ds, xs, e, hH, hv⟩ := h
  exact ⟨⟨ds, xs, e, P.keep _ _ hH ha, P.upVs hv⟩, P.out hH ha⟩
theorem Post.refl (s : StR K H ι S) : Post K ι H S ι H := ⟨fun _ _ e => e, fun _ _ _ e => e, fun _ _ e _ => e, ⟨[], by simp, by simp⟩, s⟩
theorem Post.trans (P : Post K ι H S1 ι1 H1) (Q : Post K ι1 H1 S2 ι2 H2) : Post K ι H S2 ι2 H2 where
  tups := fun b xs e => Q.tups b xs (P.tups b xs e)
  frzs := fun b o u e => Q.frzs b o u (P.frzs b o u e)
  keep := fun b o e hb => Q.keep b o (P.keep b o e hb) (P.out e hb)
  pre := by
    obtain ⟨m1, e1, h1⟩ := P.pre
    obtain ⟨m2, e2, h2⟩ := Q.pre
    refine ⟨m1 ++ m2, by rw [e2, e1, List.append_assoc], fun a ha => ?_⟩
    rcases List.mem_append.mp ha with z | z
    · exact h1 a z
    · cases q : H a with
      | none => rfl
      | some o =>
        have n1 : H1 a = none := h2 a z
        by_cases ha : a ∈ ι
        · obtain ⟨n, hn⟩ := List.getElem?_of_mem ha
          have hl := (List.getElem?_eq_some_iff.mp hn).1
          have hn1 := pre_get e1 n a hn
          have hl1 : n < S1.length := by rw [← P.st.len, e1, List.length_append]; omega
          obtain ⟨ds, xs, _, hH, _⟩ := P.st.obj n a _ hn1 (List.getElem?_eq_getElem hl1)
          rw [hH] at n1; cases n1
        · rw [P.keep a o q ha] at n1; cases n1
  st := Q.st
theorem EnvR.up (E : EnvR K H ι ρ σ) (P : Post K ι H S' ι' H') : EnvR K H' ι' ρ σ :=
  ⟨E.len, fun i d e => let ⟨v, h1, h2⟩ := E.val i d e; ⟨v, h1, P.upV h2⟩, fun i d e => let ⟨a, h1, h2, h3⟩ := E.own i d e; ⟨a, h1, P.upM h2 h3⟩, E.dj⟩
/-- a new list, laid beside -/
theorem Post.new (s : StR K H ι S) {a : Addr} {o : HO} (hn : H a = none) : Post K ι H S ι (upd H a o) where
  tups := fun b xs e => by rw [upd_ne (ne_of_none e hn)]; exact e
  frzs := fun b o u e => by rw [upd_ne (ne_of_none e hn)]; exact e
  keep := fun b o e _ => by rw [upd_ne (ne_of_none e hn)]; exact e
  pre := ⟨[], by simp, by simp⟩
  st := by
    have t : ∀ b xs, H b = some (.tup xs) → upd H a o b = some (.tup xs) := fun b xs e => by rw [upd_ne (ne_of_none e hn)]; exact e
    have f : ∀ b o' u, H b = some (.frz o' u) → upd H a o b = some (.frz o' u) := fun b _ u e => by rw [upd_ne (ne_of_none e hn)]; exact e
    refine ⟨s.len, s.nd, fun n b d h1 h2 => ?_⟩
    obtain ⟨ds, xs, e, hH, hv⟩ := s.obj n b d h1 h2
    exact ⟨ds, xs, e, by rw [upd_ne (ne_of_none hH hn)]; exact hH, hv.up t f fun _ _ q => q⟩
theorem notin (s : StR K H ι S) {a : Addr} (hn : H a = none) : a ∉ ι := fun z => by
  obtain ⟨n, hz⟩ := List.getElem?_of_mem z
  have hl := (List.getElem?_eq_some_iff.mp hz).1
  have hl1 : n < S.length := by rw [← s.len]; exact hl
  obtain ⟨ds, xs, _, hH, _⟩ := s.obj n a _ hz (List.getElem?_eq_getElem hl1)
  rw [hH] at hn; cases hn
theorem RV.list {v : V} {ds : List D} (h : RV K H ι v (.lst ds)) : ∃ a xs, v = .ref a ∧ SqL K H a xs ∧ FVs K H ι xs ds := by
  rcases h with h | ⟨a, rfl, ds', xs, e, hH, hv⟩
  · cases h with
    | lst h1 h2 => exact ⟨_, _, rfl, h1.sql, h2⟩
  · cases e; exact ⟨a, xs, rfl, .inl (.inl hH), hv⟩
theorem RV.flat {v : V} {d : D} (h : RV K H ι v d) (hd : ∀ ds, d ≠ .lst ds) : FV K H ι v d := by
  rcases h with h | ⟨a, rfl, ds', xs, e, hH, hv⟩
  · exact h
  · exact absurd e (hd _)
theorem RV.tup {v : V} {ds : List D} (h : RV K H ι v (.tup ds)) : ∃ a xs, v = .ref a ∧ SqT K H a xs ∧ FVs K H ι xs ds := by
  have h := h.flat (by intro _ e; cases e)
  cases h with
  | tup h1 h2 => exact ⟨_, _, rfl, h1, h2⟩
theorem RV.int {v : V} {i : Int} (h : RV K H ι v (.int i)) : v = .int i := by
  have h := h.flat (by intro _ e; cases e)
  cases h; rfl
theorem RV.bl {v : V} {i : Bool} (h : RV K H ι v (.bl i)) : v = .bl i := by
  have h := h.flat (by intro _ e; cases e)
  cases h; rfl
theorem RV.str {v : V} {s : List Nat} (h : RV K H ι v (.str s)) : v = .str ⟨s.toArray⟩ ∧ ∀ c ∈ s, c < 0x110000 := by
  have h := h.flat (by intro _ e; cases e)
  cases h with
  | str _ q => exact ⟨rfl, q⟩
theorem RV.non {v : V} (h : RV K H ι v .non) : v = .non := by
  have h := h.flat (by intro _ e; cases e)
  cases h; rfl
theorem FV.rv {v : V} {d : D} (h : FV K H ι v d) : RV K H ι v d := .inl h
/-- read, not kept: an object of the store by its number, or one that stands outside of the store -/
def PV (K : PySem.W.Frag) (H : Hp) (ι : List Addr) (v : V) (d : D) : Prop := FV K H ι v d ∨ ∃ a, v = .ref a ∧ MOr K H ι a d ∧ a ∉ ι
theorem Post.upP (P : Post K ι H S' ι' H') {v : V} {d : D} (h : PV K H ι v d) : PV K H' ι' v d := by
  rcases h with h | ⟨a, rfl, h, n⟩
  · exact .inl (P.upV h)
  · exact .inr ⟨a, rfl, P.upM h n⟩
theorem view_ok (s : StR K H ι S) {v : V} {d d' : D} (h : PV K H ι v d) (e : view d S = .ok d' S') : S' = S ∧ RV K H ι v d' := by
  rcases h with h | ⟨a, rfl, h, n⟩
  · cases d with
    | ref n =>
      cases h with
      | @ref _ a h =>
        have e : (match S[n]? with | some d => Res.ok d S | none => Res.stuck) = Res.ok d' S' := e
        cases q : S[n]? with
        | none => rw [q] at e; cases e
        | some o =>
          rw [q] at e
          cases e
          exact ⟨rfl, .inr ⟨a, rfl, s.obj _ _ _ h q⟩⟩
    | _ => cases e; exact ⟨rfl, .inl h⟩
  · obtain ⟨ds, xs, rfl, hH, hv⟩ := h
    cases e
    exact ⟨rfl, .inr ⟨a, rfl, ds, xs, rfl, hH, hv⟩⟩
theorem FV.pv {v : V} {d : D} (h : FV K H ι v d) : PV K H ι v d := .inl h
/-- what was untracked behind was so ahead -/
theorem Post.back (P : Post K ι H S' ι' H') (s : StR K H ι S) {a : Addr} (hn : H' a = none) : H a = none := by
  cases q : H a with
  | none => rfl
  | some o =>
    by_cases ha : a ∈ ι
    · obtain ⟨n, hz⟩ := List.getElem?_of_mem ha
      obtain ⟨more, e, _⟩ := P.pre
      have hz' := pre_get e n a hz
      have hl := (List.getElem?_eq_some_iff.mp hz').1
      have hl1 : n < S'.length := by rw [← P.st.len]; exact hl
      obtain ⟨ds, xs, _, hH, _⟩ := P.st.obj n a _ hz' (List.getElem?_eq_getElem hl1)
      rw [hH] at hn; cases hn
    · rw [P.keep a o q ha] at hn; cases hn
theorem VR.back (P : Post K ι H S' ι' H') (s : StR K H ι S) {H2 : Hp} {ι2 : List Addr} {v : V} {x : D × Bool} (h : VR K H' H2 ι2 v x) : VR K H H2 ι2 v x := by
  obtain ⟨d, b⟩ := x
  cases b with
  | true =>
    obtain ⟨a, e, n, r⟩ := h
    exact ⟨a, e, P.back s n, r⟩
  | false => exact h
/-- what an evaluation comes to -/
def Out (K : PySem.W.Frag) (ι : List Addr) (H : Hp) {α : Type} (r : Res α) (k : α → List Addr → Hp → Prop) : Prop :=
  match r with
  | .ok a S' => ∀ ι' H', Post K ι H S' ι' H' → k a ι' H'
  | .stuck => False
theorem Out.bind {α β : Type} {m : M α} {f : α → M β} {k : β → List Addr → Hp → Prop} (h : Out K ι H (M.bind m f S) k) :
    ∃ a S1, m S = .ok a S1 ∧ ∀ ι1 H1, Post K ι H S1 ι1 H1 → Out K ι1 H1 (f a S1) k := by
  unfold M.bind at h
  cases e : m S with
  | stuck => rw [e] at h; exact h.elim
  | ok a S1 =>
    rw [e] at h
    refine ⟨a, S1, rfl, fun ι1 H1 P => ?_⟩
    have h : Out K ι H (f a S1) k := h
    cases e2 : f a S1 with
    | stuck => rw [e2] at h; exact h
    | ok b S2 =>
      rw [e2] at h
      intro ι2 H2 Q
      exact h ι2 H2 (P.trans Q)
theorem Out.imp {α : Type} {r : Res α} {k k' : α → List Addr → Hp → Prop} (h : Out K ι H r k) (i : ∀ a S' ι' H', Post K ι H S' ι' H' → k a ι' H' → k' a ι' H') : Out K ι H r k' := by
  cases r with
  | stuck => exact h
  | ok a S' => exact fun ι' H' P => i a S' ι' H' P (h ι' H' P)
theorem Out.ret {α : Type} {a : α} {k : α → List Addr → Hp → Prop} (h : Out K ι H (M.ret a S) k) (s : StR K H ι S) : k a ι H := h ι H (Post.refl s)
theorem Out.guard {α : Type} {p : Prop} [Decidable p] {m : M α} {k : α → List Addr → Hp → Prop} (h : Out K ι H (guard p m S) k) : p ∧ Out K ι H (m S) k := by
  unfold Dv.guard at h
  by_cases q : p
  · rw [if_pos q] at h; exact ⟨q, h⟩
  · rw [if_neg q] at h; exact h.elim
theorem Out.opt {α : Type} {o : Option α} {k : α → List Addr → Hp → Prop} (h : Out K ι H (M.opt o S) k) (s : StR K H ι S) : ∃ a, o = some a ∧ k a ι H := by
  cases o with
  | none => exact h.elim
  | some a => exact ⟨a, rfl, h ι H (Post.refl s)⟩
theorem opt_ok {α : Type} {o : Option α} {a : α} {S S' : Store} (h : M.opt o S = .ok a S') : o = some a ∧ S' = S := by
  cases o with
  | none => cases h
  | some b => cases h; exact ⟨rfl, rfl⟩
end
end Dv

set_option Elab.async false
set_option linter.all false
set_option maxRecDepth 100000
set_option maxHeartbeats 1000000
/-! Dv3: the operations by values. -/
namespace Dv
open PySem PySem.Spec PyProof.Rows L2

section
variable {K : PySem.W.Frag} {H H' : Hp} {ι ι' : List Addr} {S S' : Store}
theorem Out.v {d : D} {k : D × Bool → List Addr → Hp → Prop} (h : Out K ι H (D.v d S) k) (s : StR K H ι S) : k (d, false) ι H := h ι H (Post.refl s)
theorem FVs.new {xs : List V} {ds : List D} {p : Addr} {o : HO} (h : FVs K H ι xs ds) (hn : H p = none) : FVs K (upd H p o) ι xs ds :=
  h.up (fun b xs e => by rw [upd_ne (ne_of_none e hn)]; exact e) (fun b o u e => by rw [upd_ne (ne_of_none e hn)]; exact e) fun _ _ q => q
theorem FV.new {x : V} {d : D} {p : Addr} {o : HO} (h : FV K H ι x d) (hn : H p = none) : FV K (upd H p o) ι x d :=
  h.up (fun b xs e => by rw [upd_ne (ne_of_none e hn)]; exact e) (fun b o u e => by rw [upd_ne (ne_of_none e hn)]; exact e) fun _ _ q => q
theorem Out.newL {ds : List D} {xs : List V} {Q : VK} (h : Out K ι H (D.f (.lst ds) S) fun r ι' H' => ∀ v, VR K H H' ι' v r → Q v H') (s : StR K H ι S) (hv : FVs K H ι xs ds) :
    ∀ p, H p = none → Q (.ref p) (upd H p (.lst xs)) := fun p hp =>
  h ι _ (Post.new s hp) _ ⟨p, rfl, hp, notin s hp, ds, xs, rfl, upd_same, hv.new hp⟩
theorem Out.newT {ds : List D} {xs : List V} {Q : VK} (h : Out K ι H (D.v (.tup ds) S) fun r ι' H' => ∀ v, VR K H H' ι' v r → Q v H') (s : StR K H ι S) (hv : FVs K H ι xs ds) :
    ∀ p, H p = none → Q (.ref p) (upd H p (.tup xs)) := fun p hp =>
  h ι _ (Post.new s hp) _ (.tup (.inl (.inl upd_same)) (hv.new hp))
theorem lstR {X : Cx} {pins : List (Addr × Obj)} {σ : L2.St} {s : Shared} {l : Addr} {xs : List V} (kl : KL X.K) (I : Inv X pins σ H s) (h : SqL X.K H l xs) :
    xs.length ≤ sizeLine ∧ ∃ (its : List Value) (n : Nat), Vals xs its ∧ xs.length = its.length ∧ s.heap.get? l = some { cls := .type "list", data := .seq its.toArray n } := by
  rcases h with h | ⟨o, its, n, hk, h1, h2, h3, h4, h5⟩
  · obtain ⟨z, its, n, r, e⟩ := h.ok I.hok
    exact ⟨z, its, n, r, r.length, e⟩
  · have h6 := kl l o hk h1
    refine ⟨by rw [h5.length]; simpa using h4, its.toList, n, h5, h5.length, ?_⟩
    rw [I.kIn l o hk]
    obtain ⟨c, d, t, sl⟩ := o
    cases h1
    cases h2
    cases h3
    cases h6
    simp
theorem line_eq : line = sizeLine := sizeLine_eq.symm
theorem le_line {n : Nat} (h : n ≤ line) : n ≤ sizeLine := by rw [sizeLine_eq]; exact h
theorem lt_line {n : Nat} (h : n < line) : n < sizeLine := by rw [sizeLine_eq]; exact h
end

section
variable {X : Cx}
/-- list + list, read -/
def rCatR (X : Cx) : R2 := fun x y H Q => ∃ l b xs zs, x = .ref l ∧ y = .ref b ∧ SqL X.K H l xs ∧ SqL X.K H b zs ∧ xs.length + zs.length ≤ sizeLine ∧ ∀ p, H p = none → Q (.ref p) (upd H p (.lst (xs ++ zs)))
theorem op_catR (kl : KL X.K) : OpR X (binaryOp .Add) (rCatR X) := fun pins st sg Hh x y v u W J rx ry h => by
  obtain ⟨l1, l2, xs1, xs2, rfl, rfl, hA, hB, hz, hw⟩ := h
  cases rx; cases ry
  obtain ⟨_, as, n1, ra, la, ea⟩ := lstR kl J hA
  obtain ⟨_, bs, n2, rb, lb, eb⟩ := lstR kl J hB
  have hs : as.toArray.size + bs.toArray.size ≤ sizeLine := by simp only [List.size_toArray]; omega
  refine PySem.P.add_list ea eb ?_ hs
  rw [show as.toArray ++ bs.toArray = (as ++ bs).toArray from by simp]
  have hz2 : (xs1 ++ xs2).length ≤ sizeLine := by rw [List.length_append]; exact hz
  exact ⟨.ref _, _, J.lnew (t' := st.toks) (ra.append rb) hz2, rfl, hw _ J.fresh⟩
/-- list * int, read -/
def rRepR (X : Cx) : R2 := fun x y H Q => ∃ l k xs, x = .ref l ∧ y = .int k ∧ SqL X.K H l xs ∧ -(2 ^ 63) ≤ k ∧ k < 2 ^ 63 ∧ xs.length * k.toNat ≤ sizeLine ∧ ∀ p, H p = none → Q (.ref p) (upd H p (.lst (List.replicate k.toNat xs).flatten))
theorem op_repR (kl : KL X.K) : OpR X (binaryOp .Mult) (rRepR X) := fun pins st sg Hh x y v u W J rx ry h => by
  obtain ⟨l1, k, xs1, rfl, rfl, hA, h1, h2, hz, hw⟩ := h
  cases rx
  obtain ⟨tk, rfl⟩ := ry
  obtain ⟨_, as, n1, ra, la, ea⟩ := lstR kl J hA
  have hlen : as.toArray.size * k.toNat ≤ sizeLine := by simp only [List.size_toArray]; rw [← la]; exact hz
  have cap : ¬ as.toArray.size * k.toNat > (2 ^ 63 - 1) / 8 := fun q => by
    have z : (sizeLine : Nat) ≤ (2 ^ 63 - 1) / 8 := by decide
    omega
  have fit : ¬ (!Builtin.List.listFitsIndex k) = true := by rw [fitsIndex_both h1 h2]; decide
  have long : ¬ Builtin.List.listTooLong (as.toArray.size * k.toNat) = true := by rw [notLongL hlen]; decide
  have many : ∀ m : Nat, List.foldl (fun x1 x2 => x1 ++ x2) #[] (List.replicate m as.toArray) = (List.replicate m as).flatten.toArray := fun m => by
    have z := foldl_rep as m []
    rwa [List.nil_append] at z
  have all : List.foldl (fun x1 x2 => x1 ++ x2) #[] (List.replicate (if as.toArray.isEmpty = true then 0 else k.toNat) as.toArray) = (List.replicate k.toNat as).flatten.toArray := by
    rw [many]
    cases as with
    | nil => simp
    | cons a r' => simp
  refine wpAny_binaryOp_repeat_ref (T := "list") (U := "int") (by decide) ⟨_, ea, rfl⟩ (fun s' => typeIs_int s' k tk) noFill_list_mul F.fills_int_mul F.slot_int_rmul repeat_list
    F.slot_int_index.lookup (call_meets F.slot_int_rmul (typeIs_int st k tk) F.entry_int_rmul (F.args_int_rmul_2 _ _) (int___rmul___int_list k tk l1 as.toArray n1) ⟨ea, rfl, ⟨_, ea, rfl⟩,
      call_meets F.slot_list_mul ⟨_, ea, rfl⟩ F.entry_list_mul (F.args_list_mul_2 _ _) (AutoListH.list___mul___list_int_3 l1 as.toArray n1 k tk fit cap long) ⟨ea, ?_⟩⟩)
  rw [all]
  exact ⟨.ref _, _, J.lnew (t' := st.toks) (ra.rep k.toNat) (by rw [PyProof.Rows.lm_len_rep_flat, Nat.mul_comm]; exact hz), rfl, hw _ J.fresh⟩
end

section
variable (K : PySem.W.Frag)
abbrev RX := D × Bool → List Addr → Hp → Prop
def rV2 (f : D → D → M (D × Bool)) : R2 := fun v1 v2 H Q => ∃ d e S ι, PV K H ι v1 d ∧ PV K H ι v2 e ∧ StR K H ι S ∧
  Out K ι H (((view d).bind fun x => (view e).bind fun y => f x y) S) fun r ι' H' => ∀ v, VR K H H' ι' v r → Q v H'
def rV1 (f : D → M (D × Bool)) : List V → Hp → VK → Prop := fun vs H Q => ∃ v1 d S ι, vs = [v1] ∧ PV K H ι v1 d ∧ StR K H ι S ∧
  Out K ι H (((view d).bind fun x => f x) S) fun r ι' H' => ∀ v, VR K H H' ι' v r → Q v H'
def biOp : Bi → Operator
  | .add => .Add | .sub => .Sub | .mul => .Mult | .fdiv => .FloorDiv | .mod => .Mod | .pow => .Pow
def cmOp : Cm → CmpOp
  | .eq => .Eq | .ne => .NotEq | .lt => .Lt | .le => .LtE | .gt => .Gt | .ge => .GtE | .in_ => .In | .notin => .NotIn
end
section
variable {X : Cx} {K : PySem.W.Frag}
theorem view2 {f : D → D → M (D × Bool)} {v1 v2 : V} {d e : D} {S : Store} {ι : List Addr} {H : Hp} {k : D × Bool → List Addr → Hp → Prop} (p1 : PV K H ι v1 d) (p2 : PV K H ι v2 e) (s : StR K H ι S)
    (h : Out K ι H (((view d).bind fun x => (view e).bind fun y => f x y) S) k) : ∃ x y, RV K H ι v1 x ∧ RV K H ι v2 y ∧ Out K ι H (f x y S) k := by
  obtain ⟨x, S1, e1, k1⟩ := h.bind
  obtain ⟨rfl, r1⟩ := view_ok s p1 e1
  obtain ⟨y, S2, e2, k2⟩ := (k1 _ _ (Post.refl s)).bind
  obtain ⟨rfl, r2⟩ := view_ok s p2 e2
  exact ⟨x, y, r1, r2, k2 _ _ (Post.refl s)⟩
theorem view1 {f : D → M (D × Bool)} {v1 : V} {d : D} {S : Store} {ι : List Addr} {H : Hp} {k : D × Bool → List Addr → Hp → Prop} (p1 : PV K H ι v1 d) (s : StR K H ι S)
    (h : Out K ι H (((view d).bind fun x => f x) S) k) : ∃ x, RV K H ι v1 x ∧ Out K ι H (f x S) k := by
  obtain ⟨x, S1, e1, k1⟩ := h.bind
  obtain ⟨rfl, r1⟩ := view_ok s p1 e1
  exact ⟨x, r1, k1 _ _ (Post.refl s)⟩
theorem op_bin (kl : KL X.K) (o : Bi) : OpR X (binaryOp (biOp o)) (rV2 X.K (binop o)) := by
  intro pins s σ H v1 v2 v u Q I rx ry h
  obtain ⟨d, e, S, ι, p1, p2, hS, h⟩ := h
  obtain ⟨x, y, r1, r2, h⟩ := view2 p1 p2 hS h
  cases o with
  | add =>
    cases x with
    | int i =>
      cases y with
      | int j =>
        cases r1.int; cases r2.int
        exact op_add pins s σ H _ _ v u Q I rx ry ⟨i, j, rfl, rfl, h.v hS _ (.int _)⟩
      | _ => exact False.elim h
    | str a =>
      cases y with
      | str b =>
        obtain ⟨rfl, k1⟩ := r1.str
        obtain ⟨rfl, k2⟩ := r2.str
        obtain ⟨g, h⟩ := h.guard
        refine op_add_str pins s σ H _ _ v u Q I rx ry ⟨_, _, rfl, rfl, by simpa [Str.length] using le_line g, ?_⟩
        have e : (⟨a.toArray⟩ ++ ⟨b.toArray⟩ : Str) = ⟨(a ++ b).toArray⟩ := by
          show (⟨a.toArray ++ b.toArray⟩ : Str) = _
          simp
        rw [e]
        exact h.v hS _ (.str _ fun c hc => (List.mem_append.mp hc).elim (k1 c) (k2 c))
      | _ => exact False.elim h
    | lst a =>
      cases y with
      | lst b =>
        obtain ⟨a1, xs, rfl, h1, f1⟩ := r1.list
        obtain ⟨a2, ys, rfl, h2, f2⟩ := r2.list
        obtain ⟨g, h⟩ := h.guard
        refine op_catR kl pins s σ H _ _ v u Q I rx ry ⟨a1, a2, xs, ys, rfl, rfl, h1, h2, by rw [f1.length, f2.length]; exact le_line g, h.newL hS (f1.append f2)⟩
      | _ => exact False.elim h
    | _ => exact False.elim h
  | sub =>
    cases x with
    | int i =>
      cases y with
      | int j =>
        cases r1.int; cases r2.int
        exact op_sub pins s σ H _ _ v u Q I rx ry ⟨i, j, rfl, rfl, h.v hS _ (.int _)⟩
      | _ => exact False.elim h
    | _ => exact False.elim h
  | mul =>
    cases x with
    | int i =>
      cases y with
      | int j =>
        cases r1.int; cases r2.int
        obtain ⟨g, h⟩ := h.guard
        exact op_mul pins s σ H _ _ v u Q I rx ry ⟨i, j, rfl, rfl, g, h.v hS _ (.int _)⟩
      | _ => exact False.elim h
    | lst a =>
      cases y with
      | int k =>
        obtain ⟨a1, xs, rfl, h1, f1⟩ := r1.list
        cases r2.int
        obtain ⟨g, h⟩ := h.guard
        exact op_repR kl pins s σ H _ _ v u Q I rx ry ⟨a1, k, xs, rfl, rfl, h1, g.1, g.2.1, by rw [f1.length]; exact le_line g.2.2, h.newL hS (f1.rep _)⟩
      | _ => exact False.elim h
    | _ => exact False.elim h
  | fdiv =>
    cases x with
    | int i =>
      cases y with
      | int j =>
        cases r1.int; cases r2.int
        obtain ⟨g, h⟩ := h.guard
        exact op_fdivN pins s σ H _ _ v u Q I rx ry ⟨i, j, rfl, rfl, g, h.v hS _ (.int _)⟩
      | _ => exact False.elim h
    | _ => exact False.elim h
  | mod =>
    cases x with
    | int i =>
      cases y with
      | int j =>
        cases r1.int; cases r2.int
        obtain ⟨g, h⟩ := h.guard
        exact op_modN pins s σ H _ _ v u Q I rx ry ⟨i, j, rfl, rfl, g, h.v hS _ (.int _)⟩
      | _ => exact False.elim h
    | _ => exact False.elim h
  | pow =>
    cases x with
    | int i =>
      cases y with
      | int j =>
        cases r1.int; cases r2.int
        obtain ⟨g, h⟩ := h.guard
        exact op_pow pins s σ H _ _ v u Q I rx ry ⟨i, j, rfl, rfl, g, h.v hS _ (.int _)⟩
      | _ => exact False.elim h
    | _ => exact False.elim h
end
end Dv

set_option Elab.async false
set_option linter.all false
set_option maxRecDepth 100000
set_option maxHeartbeats 1000000
/-! Dv4: more operations by values. -/
namespace Dv
open PySem PySem.Spec PyProof.Rows L2

/-! ### data as the library has them -/
mutual
def toPy : D → PyData
  | .bl b => .bool b
  | .int i => .int i
  | .str s => .str ⟨s.toArray⟩
  | .tup xs => .tuple (toPys xs)
  | .lst xs => .list (toPys xs)
  | _ => .none
def toPys : List D → List PyData
  | [] => []
  | x :: xs => toPy x :: toPys xs
end
theorem str_arr (x y : List Nat) : ((⟨x.toArray⟩ : Str) == ⟨y.toArray⟩) = (x == y) := by
  by_cases h : x = y
  · subst h; simp
  · have h2 : ¬ (⟨x.toArray⟩ : Str) = ⟨y.toArray⟩ := fun e => h (by injection e with e; simpa using e)
    rw [beq_eq_false_iff_ne.mpr h2, beq_eq_false_iff_ne.mpr h]
mutual
theorem eqv_py : ∀ (n : Nat) (d e : D), D.plain n d = true → D.plain n e = true → PyData.eqv (toPy d) (toPy e) = D.eqv d e
  | n, .non, e, _, he => by cases e <;> first | (cases n <;> simp [D.plain] at he; done) | simp [toPy, PyData.eqv, D.eqv]
  | n, .bl b, e, _, he => by cases e <;> first | (cases n <;> simp [D.plain] at he; done) | simp [toPy, PyData.eqv, D.eqv, b2i]
  | n, .int b, e, _, he => by cases e <;> first | (cases n <;> simp [D.plain] at he; done) | simp [toPy, PyData.eqv, D.eqv, b2i]
  | n, .str b, e, _, he => by cases e <;> first | (cases n <;> simp [D.plain] at he; done) | simp [toPy, PyData.eqv, D.eqv, str_arr]
  | n + 1, .tup xs, e, hd, he => by
    cases e with
    | tup ys =>
      simp only [toPy, PyData.eqv, D.eqv]
      exact eqv_pys n xs ys (by simpa [D.plain] using hd) (by simpa [D.plain] using he)
    | _ => first | (simp [D.plain] at he; done) | simp [toPy, PyData.eqv, D.eqv]
  | n + 1, .lst xs, e, hd, he => by
    cases e with
    | lst ys =>
      simp only [toPy, PyData.eqv, D.eqv]
      exact eqv_pys n xs ys (by simpa [D.plain] using hd) (by simpa [D.plain] using he)
    | _ => first | (simp [D.plain] at he; done) | simp [toPy, PyData.eqv, D.eqv]
  | 0, .tup xs, e, hd, _ => by simp [D.plain] at hd
  | 0, .lst xs, e, hd, _ => by simp [D.plain] at hd
  | n, .ref k, e, hd, _ => by cases n <;> simp [D.plain] at hd
theorem eqv_pys : ∀ (n : Nat) (ds es : List D), (∀ d ∈ ds, D.plain n d = true) → (∀ e ∈ es, D.plain n e = true) → PyData.eqvAll (toPys ds) (toPys es) = D.eqvs ds es
  | n, [], [], _, _ => by simp [toPys, PyData.eqvAll, D.eqvs]
  | n, [], _ :: _, _, _ => by simp [toPys, PyData.eqvAll, D.eqvs]
  | n, _ :: _, [], _, _ => by simp [toPys, PyData.eqvAll, D.eqvs]
  | n, d :: ds, e :: es, h1, h2 => by
    simp only [toPys, PyData.eqvAll, D.eqvs]
    rw [eqv_py n d e (h1 d (by simp)) (h2 e (by simp)), eqv_pys n ds es (fun x hx => h1 x (by simp [hx])) (fun x hx => h2 x (by simp [hx]))]
end
mutual
theorem depth_py : ∀ (n : Nat) (d : D), D.plain n d = true → (toPy d).depth ≤ n + 1
  | n, .non, _ => by simp [toPy, PyData.depth]
  | n, .bl b, _ => by simp [toPy, PyData.depth]
  | n, .int b, _ => by simp [toPy, PyData.depth]
  | n, .str b, _ => by simp [toPy, PyData.depth]
  | n + 1, .tup xs, h => by
    have := depth_pys n xs (by simpa [D.plain] using h)
    simp [toPy, PyData.depth]; omega
  | n + 1, .lst xs, h => by
    have := depth_pys n xs (by simpa [D.plain] using h)
    simp [toPy, PyData.depth]; omega
  | 0, .tup xs, hd => by simp [D.plain] at hd
  | 0, .lst xs, hd => by simp [D.plain] at hd
  | n, .ref k, hd => by cases n <;> simp [D.plain] at hd
theorem depth_pys : ∀ (n : Nat) (ds : List D), (∀ d ∈ ds, D.plain n d = true) → PyData.depthAll (toPys ds) ≤ n + 1
  | n, [], _ => by simp [toPys, PyData.depthAll]
  | n, d :: ds, h1 => by
    have a := depth_py n d (h1 d (by simp))
    have b := depth_pys n ds (fun x hx => h1 x (by simp [hx]))
    simp [toPys, PyData.depthAll]; omega
end
section
variable {K : PySem.W.Frag} {H : Hp} {ι : List Addr}
mutual
theorem FV.py : ∀ (n : Nat) (d : D) (v : V), FV K H ι v d → D.plain n d = true → Dp K H v (toPy d) ∧ (toPy d).canLay0 = true
  | n, .non, _, h, _ => by cases h; exact ⟨.non, by simp [toPy, PyData.canLay0]⟩
  | n, .bl b, _, h, _ => by cases h; exact ⟨.bl b, by simp [toPy, PyData.canLay0]⟩
  | n, .int b, _, h, _ => by cases h; exact ⟨.int b, by simp [toPy, PyData.canLay0]⟩
  | n, .str b, _, h, _ => by
    cases h with
    | str _ h => exact ⟨.str _, by simpa [toPy, PyData.canLay0, PyData.strOk] using h⟩
  | n + 1, .tup xs, _, h, p => by
    cases h with
    | tup h1 h2 =>
      have q := FVs.py n xs _ h2 (by simpa [D.plain] using p)
      exact ⟨by rw [toPy]; exact .tup h1 q.1, by simpa [toPy, PyData.canLay0] using q.2⟩
  | n + 1, .lst xs, _, h, p => by
    cases h with
    | lst h1 h2 =>
      have q := FVs.py n xs _ h2 (by simpa [D.plain] using p)
      exact ⟨by rw [toPy]; exact .lst h1.sql q.1, by simpa [toPy, PyData.canLay0] using q.2⟩
  | 0, .tup xs, _, _, hd => by simp [D.plain] at hd
  | 0, .lst xs, _, _, hd => by simp [D.plain] at hd
  | n, .ref k, _, _, hd => by cases n <;> simp [D.plain] at hd
theorem FVs.py : ∀ (n : Nat) (ds : List D) (vs : List V), FVs K H ι vs ds → (∀ d ∈ ds, D.plain n d = true) → DpAll K H vs (toPys ds) ∧ PyData.canLayAll0 (toPys ds) = true
  | n, [], _, h, _ => by cases h; exact ⟨.nil, by simp [toPys, PyData.canLayAll0]⟩
  | n, d :: ds, _, h, p => by
    cases h with
    | cons h1 h2 =>
      have a := FV.py n d _ h1 (p d (by simp))
      have b := FVs.py n ds _ h2 (fun x hx => p x (by simp [hx]))
      exact ⟨by rw [toPys]; exact .cons a.1 b.1, by simp [toPys, PyData.canLayAll0, a.2, b.2]⟩
end
theorem RV.py (n : Nat) (d : D) (v : V) (h : RV K H ι v d) (p : D.plain (n + 1) d = true) : Dp K H v (toPy d) ∧ (toPy d).canLay0 = true := by
  rcases h with h | ⟨a, rfl, ds, xs, rfl, hH, hv⟩
  · exact FV.py _ d v h p
  · have q := FVs.py n ds _ hv (by simpa [D.plain] using p)
    exact ⟨by rw [toPy]; exact .lst (.inl (.inl hH)) q.1, by simpa [toPy, PyData.canLay0] using q.2⟩
theorem okStr {s : List Nat} : PyData.strOk ⟨s.toArray⟩ = true ↔ ∀ c ∈ s, c < 0x110000 := by simp [PyData.strOk]
theorem shaped_py {n : Nat} {d : D} (hn : n ≤ 60) (p : D.plain n d = true) (c : (toPy d).canLay0 = true) : SeqAt.shaped (toPy d) = true := by
  have := depth_py n d p
  unfold SeqAt.shaped
  rw [c, decide_eq_true (by omega)]; rfl
end

/-! ### comparisons -/
section
variable (K : PySem.W.Frag)
def rC2 (o : Cm) : R2 := fun v1 v2 H Q => ∃ d e S ι, PV K H ι v1 d ∧ PV K H ι v2 e ∧ StR K H ι S ∧ Out K ι H (cmpV o d e S) fun b _ H' => Q (.bl b) H'
end
section
variable {X : Cx} {ι : List Addr}
theorem viewC {K : PySem.W.Frag} {H : Hp} {f : D → D → M Bool} {v1 v2 : V} {d e : D} {S : Store} {k : Bool → List Addr → Hp → Prop} (p1 : PV K H ι v1 d) (p2 : PV K H ι v2 e) (s : StR K H ι S)
    (h : Out K ι H (((view d).bind fun x => (view e).bind fun y => f x y) S) k) : ∃ x y, RV K H ι v1 x ∧ RV K H ι v2 y ∧ Out K ι H (f x y S) k := by
  obtain ⟨x, S1, e1, k1⟩ := h.bind
  obtain ⟨rfl, r1⟩ := view_ok s p1 e1
  obtain ⟨y, S2, e2, k2⟩ := (k1 _ _ (Post.refl s)).bind
  obtain ⟨rfl, r2⟩ := view_ok s p2 e2
  exact ⟨x, y, r1, r2, k2 _ _ (Post.refl s)⟩
theorem flat_fv {K : PySem.W.Frag} {H : Hp} {v : V} {d : D} (h : FV K H ι v d) (f : d.flat = true) : flatV v = true := by
  cases h <;> first | rfl | cases f
theorem flats_fv {K : PySem.W.Frag} {H : Hp} : ∀ {vs : List V} {ds : List D}, FVs K H ι vs ds → ds.all D.flat = true → vs.all flatV = true
  | _, _, .nil, _ => rfl
  | _, _, .cons h t, f => by
    rw [List.all_cons, Bool.and_eq_true] at f
    rw [List.all_cons, flat_fv h f.1, flats_fv t f.2]; rfl
theorem eqV_eqv {K : PySem.W.Frag} {H : Hp} {v w : V} {d e : D} (h : FV K H ι v d) (f : d.flat = true) (h' : FV K H ι w e) (f' : e.flat = true) : eqV v w = D.eqv d e := by
  cases h <;> first | (cases f; done) | skip
  all_goals cases h' <;> first | (cases f'; done) | skip
  all_goals first | (simp [eqV, D.eqv, b2i]; done) | (simp [eqV, D.eqv, str_arr])
theorem inV_eqv {K : PySem.W.Frag} {H : Hp} {w : V} {e : D} (h' : FV K H ι w e) (f' : e.flat = true) : ∀ {vs : List V} {ds : List D}, FVs K H ι vs ds → ds.all D.flat = true → inV w vs = ds.any fun z => D.eqv z e
  | _, _, .nil, _ => rfl
  | _, _, .cons h t, f => by
    rw [List.all_cons, Bool.and_eq_true] at f
    have ih := inV_eqv h' f' t f.2
    unfold inV at ih ⊢
    rw [List.any_cons, List.any_cons, ih, eqV_eqv h f.1 h' f']
theorem mem_dec (c : Nat) (s : List Nat) : decide (c ∈ s) = s.contains c := by
  rw [List.contains_eq_mem]
theorem in_any (pins : List (Addr × Obj)) (s : Shared) (σ : L2.St) (H : Hp) (v1 v2 : V) (v u : Value) (Q : VK) (I : Inv X pins σ H s) (rx : RelV v1 v) (ry : RelV v2 u) {x y : D} (r1 : RV X.K H ι v1 x) (r2 : RV X.K H ι v2 y)
    (f1 : x.flat = true) (f2 : y.flat1 = true) (neg : Bool) (h : Q (.bl (if neg then !(y.its.any fun z => D.eqv z x) else y.its.any fun z => D.eqv z x)) H) :
    wpAny (model X.prog X.w) X.A (compareOp (if neg then .NotIn else .In) v u) (EP X pins σ Q) X.xe s := by
  have q1 : FV X.K H ι v1 x := r1.flat (fun _ e => by subst e; cases f1)
  have main : ∃ p xs, v2 = .ref p ∧ (SqL X.K H p xs ∨ SqT X.K H p xs) ∧ FVs X.K H ι xs y.its ∧ y.its.all D.flat = true := by
    cases y with
    | lst ys => obtain ⟨a, xs, rfl, h1, h2⟩ := r2.list; exact ⟨a, xs, rfl, .inl h1, h2, f2⟩
    | tup ys => obtain ⟨a, xs, rfl, h1, h2⟩ := r2.tup; exact ⟨a, xs, rfl, .inr h1, h2, f2⟩
    | _ => cases f2
  obtain ⟨p, xs, rfl, h1, h2, h3⟩ := main
  have e := inV_eqv q1 f1 h2 h3
  cases neg with
  | false => exact op_in_seq pins s σ H _ _ v u Q I rx ry ⟨p, xs, rfl, h1, flat_fv q1 f1, flats_fv h2 h3, by rw [e]; exact h⟩
  | true => exact op_notIn_seq pins s σ H _ _ v u Q I rx ry ⟨p, xs, rfl, h1, flat_fv q1 f1, flats_fv h2 h3, by rw [e]; exact h⟩
theorem op_cmp (hu : X.A.units + 64 < cLine) (o : Cm) : OpR X (compareOp (cmOp o)) (rC2 X.K o) := by
  intro pins s σ H v1 v2 v u Q I rx ry h
  obtain ⟨d, e, S, ι, p1, p2, hS, h⟩ := h
  obtain ⟨x, y, r1, r2, h⟩ := viewC p1 p2 hS h
  have iw : ∀ {g : Int → Int → Bool} {op : CmpOp}, OpR X (compareOp op) (rI0 fun i j => .bl (g i j)) → (∃ i j, x = .int i ∧ y = .int j ∧ Q (.bl (g i j)) H) → wpAny (model X.prog X.w) X.A (compareOp op v u) (EP X pins σ Q) X.xe s := by
    rintro g op hop ⟨i, j, rfl, rfl, q⟩
    cases r1.int; cases r2.int
    exact hop pins s σ H _ _ v u Q I rx ry ⟨i, j, rfl, rfl, q⟩
  cases o with
  | lt => refine iw op_lt ?_; cases x <;> first | exact False.elim h | skip
          cases y <;> first | exact False.elim h | exact ⟨_, _, rfl, rfl, h.ret hS⟩
  | le => refine iw op_le ?_; cases x <;> first | exact False.elim h | skip
          cases y <;> first | exact False.elim h | exact ⟨_, _, rfl, rfl, h.ret hS⟩
  | gt => refine iw op_gt ?_; cases x <;> first | exact False.elim h | skip
          cases y <;> first | exact False.elim h | exact ⟨_, _, rfl, rfl, h.ret hS⟩
  | ge => refine iw op_ge ?_; cases x <;> first | exact False.elim h | skip
          cases y <;> first | exact False.elim h | exact ⟨_, _, rfl, rfl, h.ret hS⟩
  | eq =>
    have h : Out X.K ι H (Dv.guard (D.plain 20 x = true ∧ D.plain 20 y = true) (M.ret (D.eqv x y)) S) (fun b _ H' => Q (.bl b) H') := by cases x <;> cases y <;> exact h
    obtain ⟨g, h⟩ := h.guard
    obtain ⟨a1, a2⟩ := RV.py 19 _ _ r1 g.1
    obtain ⟨b1, b2⟩ := RV.py 19 _ _ r2 g.2
    exact op_eqD hu pins s σ H _ _ v u Q I rx ry ⟨_, _, a1, b1, shaped_py (by decide) g.1 a2, shaped_py (by decide) g.2 b2, by rw [eqv_py 20 _ _ g.1 g.2]; exact h.ret hS⟩
  | ne =>
    have h : Out X.K ι H (Dv.guard (D.plain 20 x = true ∧ D.plain 20 y = true) (M.ret (!D.eqv x y)) S) (fun b _ H' => Q (.bl b) H') := by cases x <;> cases y <;> exact h
    obtain ⟨g, h⟩ := h.guard
    obtain ⟨a1, a2⟩ := RV.py 19 _ _ r1 g.1
    obtain ⟨b1, b2⟩ := RV.py 19 _ _ r2 g.2
    exact op_neD hu pins s σ H _ _ v u Q I rx ry ⟨_, _, a1, b1, shaped_py (by decide) g.1 a2, shaped_py (by decide) g.2 b2, by rw [eqv_py 20 _ _ g.1 g.2]; exact h.ret hS⟩
  | in_ =>
    have alt : Out X.K ι H (Dv.guard (x.flat = true ∧ y.flat1 = true) (M.ret (y.its.any fun z => D.eqv z x)) S) (fun b _ H' => Q (.bl b) H') →
        wpAny (model X.prog X.w) X.A (compareOp .In v u) (EP X pins σ Q) X.xe s := fun h => by
      obtain ⟨g, h⟩ := h.guard
      exact in_any pins s σ H v1 v2 v u Q I rx ry r1 r2 g.1 g.2 false (h.ret hS)
    cases x with
    | str a =>
      cases y with
      | str b =>
        match a, h, r1 with
        | [c], h, r1 =>
          obtain ⟨rfl, _⟩ := r1.str
          obtain ⟨rfl, _⟩ := r2.str
          exact op_in_sign pins s σ H _ _ v u Q I rx ry ⟨c, _, rfl, rfl, by rw [mem_dec]; exact h.ret hS⟩
        | [], h, r1 => exact alt h
        | _ :: _ :: _, h, r1 => exact alt h
      | _ =>
        match a, h with
        | [], h => exact alt h
        | [_], h => exact alt h
        | _ :: _ :: _, h => exact alt h
    | _ => exact alt (by cases y <;> exact h)
  | notin =>
    have alt : Out X.K ι H (Dv.guard (x.flat = true ∧ y.flat1 = true) (M.ret (!(y.its.any fun z => D.eqv z x))) S) (fun b _ H' => Q (.bl b) H') →
        wpAny (model X.prog X.w) X.A (compareOp .NotIn v u) (EP X pins σ Q) X.xe s := fun h => by
      obtain ⟨g, h⟩ := h.guard
      exact in_any pins s σ H v1 v2 v u Q I rx ry r1 r2 g.1 g.2 true (h.ret hS)
    cases x with
    | str a =>
      cases y with
      | str b =>
        match a, h, r1 with
        | [c], h, r1 =>
          obtain ⟨rfl, _⟩ := r1.str
          obtain ⟨rfl, _⟩ := r2.str
          exact op_notIn_sign pins s σ H _ _ v u Q I rx ry ⟨c, _, rfl, rfl, by rw [mem_dec]; exact h.ret hS⟩
        | [], h, r1 => exact alt h
        | _ :: _ :: _, h, r1 => exact alt h
      | _ =>
        match a, h with
        | [], h => exact alt h
        | [_], h => exact alt h
        | _ :: _ :: _, h => exact alt h
    | _ => exact alt (by cases y <;> exact h)
end
end Dv

set_option Elab.async false
set_option linter.all false
set_option maxRecDepth 100000
set_option maxHeartbeats 1000000
/-! Dv5: subscripts, slices, built-ins of one argument, join, what a loop walks. -/
namespace Dv
open PySem PySem.Spec PyProof.Rows L2

section
variable {K : PySem.W.Frag} {H H' : Hp} {ι ι' : List Addr} {S S' : Store}
theorem atI_fv {xs : List V} {ds : List D} {i : Int} {d : D} (h : FVs K H ι xs ds) (e : ((Dv.ixN ds.length i).bind fun j => ds[j]?) = some d) : ∃ v, atI xs i = some v ∧ FV K H ι v d := by
  have e' : ((L2.ixN xs.length i).bind fun j => ds[j]?) = some d := by rw [h.length]; exact e
  unfold atI
  cases q : L2.ixN xs.length i with
  | none => rw [q] at e'; cases e'
  | some j =>
    rw [q] at e'
    obtain ⟨v, h1, h2⟩ := h.get (i := j) (d := d) e'
    exact ⟨v, h1, h2⟩
theorem cut_fv {xs : List V} {ds : List D} (h : FVs K H ι xs ds) (lo hi : Option Int) : FVs K H ι (cutV xs lo hi) (cutL ds lo hi) := by
  unfold cutV cutL
  rw [h.length]
  exact (h.drop _).take _
end
section
variable (K : PySem.W.Frag)
def rIxD : R2 := fun v1 v2 H Q => ∃ d k S ι, PV K H ι v1 d ∧ FV K H ι v2 k ∧ StR K H ι S ∧ Out K ι H (((view d).bind fun x => (index x k).bind D.v) S) fun r ι' H' => ∀ v, VR K H H' ι' v r → Q v H'
def rCutD : V → Option Int → Option Int → Hp → VK → Prop := fun v1 lo hi H Q => ∃ d S ι, PV K H ι v1 d ∧ StR K H ι S ∧ Out K ι H (((view d).bind fun x => cutop x lo hi) S) fun r ι' H' => ∀ v, VR K H H' ι' v r → Q v H'
def rJoin : V → List V → Hp → VK → Prop := fun v1 vs H Q => ∃ x d v2 S ι, vs = [v2] ∧ FV K H ι v1 x ∧ PV K H ι v2 d ∧ StR K H ι S ∧ Out K ι H (((view d).bind fun y => (joinop x y).bind D.v) S) fun r ι' H' => ∀ v, VR K H H' ι' v r → Q v H'
end
section
variable {X : Cx}
theorem ix_any : IxR X (rIxD X.K) := by
  intro value slice pins s σ H v1 v2 v u Q I rx ry h hs
  obtain ⟨d, k, S, ι, p1, p2, hS, h⟩ := h
  obtain ⟨x, r1, h⟩ := view1 p1 hS h
  obtain ⟨y, S1, e1, k1⟩ := h.bind
  cases x with
  | lst ds =>
    cases k with
    | int i =>
      obtain ⟨e2, rfl⟩ := opt_ok e1
      obtain ⟨a, xs, rfl, h1, h2⟩ := r1.list
      obtain ⟨z, h3, h4⟩ := atI_fv h2 e2
      cases p2
      exact ix_list value slice pins s σ H _ _ v u Q I rx ry ⟨a, xs, i, z, rfl, rfl, h1, h3, (k1 _ _ (Post.refl hS)).v hS _ h4⟩ hs
    | _ => exact nomatch e1
  | tup ds =>
    cases k with
    | int i =>
      obtain ⟨e2, rfl⟩ := opt_ok e1
      obtain ⟨a, xs, rfl, h1, h2⟩ := r1.tup
      obtain ⟨z, h3, h4⟩ := atI_fv h2 e2
      cases p2
      exact ix_tup value slice pins s σ H _ _ v u Q I rx ry ⟨a, xs, i, z, rfl, rfl, h1, h3, (k1 _ _ (Post.refl hS)).v hS _ h4⟩ hs
    | _ => exact nomatch e1
  | str t =>
    cases k with
    | int i =>
      have e1 : Dv.guard (t.length ≤ line) (M.opt ((Dv.ixN t.length i).bind fun j => (t[j]?).map fun c => D.str [c])) S = .ok y S1 := e1
      unfold Dv.guard at e1
      by_cases g : t.length ≤ line
      · rw [if_pos g] at e1
        obtain ⟨e2, rfl⟩ := opt_ok e1
        obtain ⟨rfl, hc⟩ := r1.str
        cases p2
        cases q : Dv.ixN t.length i with
        | none => rw [q] at e2; cases e2
        | some j =>
          rw [q] at e2
          have e2 : (t[j]?).map (fun c => D.str [c]) = some y := e2
          cases q2 : t[j]? with
          | none => rw [q2] at e2; cases e2
          | some c =>
            rw [q2] at e2
            cases e2
            have ha : atI t i = some c := by
              unfold atI
              rw [show L2.ixN t.length i = some j from q]; exact q2
            refine ix_str value slice pins s σ H _ _ v u Q I rx ry ⟨_, i, c, rfl, rfl, by simpa [Str.length] using le_line g, by simpa using ha, (k1 _ _ (Post.refl hS)).v hS _ (.str [c] ?_)⟩ hs
            intro z hz
            have : z = c := by simpa using hz
            subst this
            exact hc z (List.mem_of_getElem? q2)
      · rw [if_neg g] at e1; cases e1
    | _ => exact nomatch e1
  | _ => exact nomatch e1
theorem sl_any : SlR X (rCutD X.K) := by
  intro pins s σ H x v vl vu lo hi sl Q I rx hs pl pu h
  obtain ⟨d, S, ι, p1, hS, h⟩ := h
  obtain ⟨y, r1, h⟩ := view1 p1 hS h
  cases y with
  | lst ds =>
    obtain ⟨a, xs, rfl, h1, h2⟩ := r1.list
    exact sl_list pins s σ H _ v vl vu lo hi sl Q I rx hs pl pu ⟨a, xs, rfl, h1, h.newL hS (cut_fv h2 lo hi)⟩
  | str t =>
    obtain ⟨rfl, hc⟩ := r1.str
    obtain ⟨g, h⟩ := h.guard
    refine sl_str pins s σ H _ v vl vu lo hi sl Q I rx hs pl pu ⟨_, rfl, by simpa [Str.length] using le_line g, ?_⟩
    have e : cutS ⟨t.toArray⟩ lo hi = ⟨(cutL t lo hi).toArray⟩ := by
      unfold cutS cutL
      simp [Str.length]
    rw [e]
    exact h.v hS _ (.str _ fun c hc' => hc c (List.mem_of_mem_drop (List.mem_of_mem_take hc')))
  | _ => exact False.elim h
theorem allS_fv {K : PySem.W.Frag} {H : Hp} {ι : List Addr} : ∀ {xs : List V} {ds : List D} {ts : List (List Nat)}, FVs K H ι xs ds → allS ds = some ts →
    xs = (ts.map fun t => (⟨t.toArray⟩ : Str)).map V.str ∧ ∀ t ∈ ts, ∀ c ∈ t, c < 0x110000
  | _, _, ts, .nil, e => by cases e; exact ⟨rfl, by simp⟩
  | _, _, ts, .cons h hs, e => by
    cases h with
    | str t ht =>
      rename_i vs ds
      have e : (allS ds).map (t :: ·) = some ts := e
      cases q : allS ds with
      | none => rw [q] at e; cases e
      | some r =>
        rw [q] at e
        cases e
        obtain ⟨h1, h2⟩ := allS_fv hs q
        refine ⟨by rw [h1]; rfl, fun t' ht' => ?_⟩
        rcases List.mem_cons.mp ht' with rfl | z
        · exact ht
        · exact h2 t' z
    | _ => cases e
theorem joinL_mem (s : List Nat) : ∀ (ts : List (List Nat)) (c : Nat), c ∈ TL.joinL s ts → c ∈ s ∨ ∃ t ∈ ts, c ∈ t
  | [], c, h => by simp [TL.joinL] at h
  | [t], c, h => .inr ⟨t, by simp, by simpa [TL.joinL] using h⟩
  | t :: t2 :: r, c, h => by
    have h : c ∈ t ++ (s ++ TL.joinL s (t2 :: r)) := h
    rcases List.mem_append.mp h with h | h
    · exact .inr ⟨t, by simp, h⟩
    · rcases List.mem_append.mp h with h | h
      · exact .inl h
      · rcases joinL_mem s (t2 :: r) c h with h | ⟨z, hz, h⟩
        · exact .inl h
        · exact .inr ⟨z, List.mem_cons_of_mem _ hz, h⟩
theorem join_str (s : List Nat) (ts : List (List Nat)) : Str.join ⟨s.toArray⟩ (ts.map fun t => (⟨t.toArray⟩ : Str)) = ⟨(TL.joinL s ts).toArray⟩ := by
  have h := TL.tl_join ⟨s.toArray⟩ (ts.map fun t => (⟨t.toArray⟩ : Str))
  have e : TL.tl (Str.join ⟨s.toArray⟩ (ts.map fun t => (⟨t.toArray⟩ : Str))) = TL.joinL s ts := by
    rw [h]
    congr 1
    rw [List.map_map]
    conv => rhs; rw [← List.map_id ts]
    rfl
  generalize Str.join ⟨s.toArray⟩ (ts.map fun t => (⟨t.toArray⟩ : Str)) = z at e
  obtain ⟨c⟩ := z
  have e : c.toList = TL.joinL s ts := e
  rw [← e]
theorem mt_joinD : MtR X "str.join" (rJoin X.K) := by
  intro pins s σ H v1 vs v us Q I rx rv h
  obtain ⟨x, d, v2, S, ι, rfl, q1, p2, hS, h⟩ := h
  obtain ⟨y, r2, h⟩ := view1 p2 hS h
  obtain ⟨z, S1, e1, k1⟩ := h.bind
  cases x with
  | str t =>
    cases y with
    | lst ds =>
      obtain ⟨rfl, ht⟩ := q1.rv.str
      obtain ⟨a, xs, rfl, h1, h2⟩ := r2.list
      have e1 : (M.opt (allS ds)).bind (fun ts => Dv.guard ((ts.map List.length).sum + ts.length * t.length ≤ line) (M.ret (.str (TL.joinL t ts)))) S = .ok z S1 := e1
      cases q : allS ds with
      | none => rw [q] at e1; cases e1
      | some ts =>
        rw [q] at e1
        have e1 : Dv.guard ((ts.map List.length).sum + ts.length * t.length ≤ line) (M.ret (D.str (TL.joinL t ts))) S = .ok z S1 := e1
        unfold Dv.guard at e1
        by_cases g : (ts.map List.length).sum + ts.length * t.length ≤ line
        · rw [if_pos g] at e1
          cases e1
          obtain ⟨ex, hm⟩ := allS_fv h2 q
          refine mt_join pins s σ H _ _ v us Q I rx rv ⟨⟨t.toArray⟩, a, _, rfl, rfl, .inl (by rw [← ex]; exact h1), ?_, ?_⟩
          · rw [List.length_map, List.map_map]
            have : (ts.map ((fun x => x.length) ∘ fun t => (⟨t.toArray⟩ : Str))) = ts.map List.length := by
              apply List.map_congr_left; intro t _; simp [Str.length]
            rw [this]
            simpa [Str.length] using g
          · rw [TL.join_eq, join_str]
            refine (k1 _ _ (Post.refl hS)).v hS _ (.str _ fun c hc => ?_)
            rcases joinL_mem t ts c hc with z | ⟨t', z1, z2⟩
            · exact ht c z
            · exact hm t' z1 c z2
        · rw [if_neg g] at e1; cases e1
    | _ => exact nomatch e1
  | _ => exact nomatch e1
theorem allB_fv {K : PySem.W.Frag} {H : Hp} {ι : List Addr} : ∀ {xs : List V} {ds : List D} {ts : List Bool}, FVs K H ι xs ds → allB ds = some ts → xs = ts.map V.bl
  | _, _, ts, .nil, e => by cases e; rfl
  | _, _, ts, .cons h hs, e => by
    cases h with
    | bl t =>
      rename_i vs ds
      have e : (allB ds).map (t :: ·) = some ts := e
      cases q : allB ds with
      | none => rw [q] at e; cases e
      | some r => rw [q] at e; cases e; rw [allB_fv hs q]; rfl
    | _ => cases e
def rB1 (K : PySem.W.Frag) (f : B1) : List V → Hp → VK → Prop := rV1 K (b1op f)
theorem cr_len : CallR X (.builtin "len") (rB1 X.K .len) := by
  intro pins s σ H vs us Q I r h
  obtain ⟨v1, d, S, ι, rfl, p1, hS, h⟩ := h
  obtain ⟨x, r1, h⟩ := view1 p1 hS h
  cases x with
  | lst ds =>
    obtain ⟨a, xs, rfl, h1, h2⟩ := r1.list
    exact call_len pins s σ H _ us Q I r ⟨_, ds.length, rfl, .inl ⟨xs, h1, h2.length.symm⟩, h.v hS _ (.int _)⟩
  | tup ds =>
    obtain ⟨a, xs, rfl, h1, h2⟩ := r1.tup
    exact call_len pins s σ H _ us Q I r ⟨_, ds.length, rfl, .inr ⟨xs, h1, h2.length.symm⟩, h.v hS _ (.int _)⟩
  | str t =>
    obtain ⟨rfl, _⟩ := r1.str
    obtain ⟨g, h⟩ := h.guard
    exact call_len pins s σ H _ us Q I r ⟨_, t.length, rfl, ⟨by simpa [Str.length] using le_line g, by simp [Str.length]⟩, h.v hS _ (.int _)⟩
  | _ => exact False.elim h
theorem cr_int : CallR X (.type "int") (rB1 X.K .int) := by
  intro pins s σ H vs us Q I r h
  obtain ⟨v1, d, S, ι, rfl, p1, hS, h⟩ := h
  obtain ⟨x, r1, h⟩ := view1 p1 hS h
  cases x with
  | int i => cases r1.int; exact call_int1 pins s σ H _ us Q I r (.inl ⟨i, rfl, h.v hS _ (.int _)⟩)
  | bl b => cases r1.bl; exact call_int1 pins s σ H _ us Q I r (.inr ⟨b, rfl, h.v hS _ (.int _)⟩)
  | _ => exact False.elim h
theorem cr_list : CallR X (.type "list") (rB1 X.K .list) := by
  intro pins s σ H vs us Q I r h
  obtain ⟨v1, d, S, ι, rfl, p1, hS, h⟩ := h
  obtain ⟨x, r1, h⟩ := view1 p1 hS h
  cases x with
  | lst ds =>
    obtain ⟨a, xs, rfl, h1, h2⟩ := r1.list
    exact call_list_of pins s σ H _ us Q I r ⟨a, xs, rfl, .inl h1, h.newL hS h2⟩
  | tup ds =>
    obtain ⟨a, xs, rfl, h1, h2⟩ := r1.tup
    exact call_list_of pins s σ H _ us Q I r ⟨a, xs, rfl, .inr h1, h.newL hS h2⟩
  | _ => exact False.elim h
theorem cr_allD (hc : X.calm = true) : CallR X (.builtin "all") (rB1 X.K .all) := by
  intro pins s σ H vs us Q I r h
  obtain ⟨v1, d, S, ι, rfl, p1, hS, h⟩ := h
  obtain ⟨x, r1, h⟩ := view1 p1 hS h
  cases x with
  | lst ds =>
    obtain ⟨a, xs, rfl, h1, h2⟩ := r1.list
    obtain ⟨bs, S1, e1, k1⟩ := h.bind
    obtain ⟨e2, rfl⟩ := opt_ok e1
    have ex := allB_fv h2 e2
    exact cr_all hc pins s σ H _ us Q I r ⟨a, bs, rfl, by rw [← ex]; exact h1, (k1 _ _ (Post.refl hS)).v hS _ (.bl _)⟩
  | _ => exact False.elim h
theorem cr_anyD (hc : X.calm = true) : CallR X (.builtin "any") (rB1 X.K .any) := by
  intro pins s σ H vs us Q I r h
  obtain ⟨v1, d, S, ι, rfl, p1, hS, h⟩ := h
  obtain ⟨x, r1, h⟩ := view1 p1 hS h
  cases x with
  | lst ds =>
    obtain ⟨a, xs, rfl, h1, h2⟩ := r1.list
    obtain ⟨bs, S1, e1, k1⟩ := h.bind
    obtain ⟨e2, rfl⟩ := opt_ok e1
    have ex := allB_fv h2 e2
    exact cr_any hc pins s σ H _ us Q I r ⟨a, bs, rfl, by rw [← ex]; exact h1, (k1 _ _ (Post.refl hS)).v hS _ (.bl _)⟩
  | _ => exact False.elim h

/-! ### isinstance of built-in classes -/
def tyName : Ty → String
  | .int => "int" | .str => "str" | .bool => "bool" | .list => "list" | .tuple => "tuple"
def tyV : Ty → V := fun t => .ty (tyName t)
theorem kit_has {K : PySem.W.Frag} {H : Hp} {ι : List Addr} {v : V} {x : D} (h : RV K H ι v x) (hr : ∀ n, x ≠ .ref n) : ∃ a : String, TyX K H v (.type a) ∧ ∀ t : Ty, PySem.W.kitOne K (.type a) (.type (tyName t)) = some (t.has x) := by
  cases x with
  | non => cases h.non; exact ⟨"NoneType", .base .non, fun t => by cases t <;> exact kit_ty (by first | (show _ = some true; decide +kernel) | (show _ = some false; decide +kernel))⟩
  | bl b => cases h.bl; exact ⟨"bool", .base (.bl b), fun t => by cases t <;> exact kit_ty (by first | (show _ = some true; decide +kernel) | (show _ = some false; decide +kernel))⟩
  | int b => cases h.int; exact ⟨"int", .base (.int b), fun t => by cases t <;> exact kit_ty (by first | (show _ = some true; decide +kernel) | (show _ = some false; decide +kernel))⟩
  | str b => cases h.str.1; exact ⟨"str", .base (.str _), fun t => by cases t <;> exact kit_ty (by first | (show _ = some true; decide +kernel) | (show _ = some false; decide +kernel))⟩
  | lst ds =>
    obtain ⟨a, xs, rfl, h1, h2⟩ := h.list
    refine ⟨"list", ?_, fun t => by cases t <;> exact kit_ty (by first | (show _ = some true; decide +kernel) | (show _ = some false; decide +kernel))⟩
    rcases h1 with (h1 | ⟨o, h1⟩) | ⟨o, its, n, h1, h2, _⟩
    · exact .base (.lst h1)
    · exact .base (.frz h1)
    · exact .kList h1 h2
  | tup ds =>
    obtain ⟨a, xs, rfl, h1, h2⟩ := h.tup
    refine ⟨"tuple", ?_, fun t => by cases t <;> exact kit_ty (by first | (show _ = some true; decide +kernel) | (show _ = some false; decide +kernel))⟩
    rcases h1 with (h1 | ⟨o, h1⟩) | ⟨o, its, n, h1, h2, _⟩
    · exact .base (.tup h1)
    · exact .fTuple h1
    · exact .kTuple h1 h2
  | ref n => exact absurd rfl (hr n)
theorem kit_any {K : PySem.W.Frag} {a : String} {x : D} (h : ∀ t : Ty, PySem.W.kitOne K (.type a) (.type (tyName t)) = some (t.has x)) : ∀ ts : List Ty,
    PySem.W.kitAny K (.type a) (ts.map fun t => Value.type (tyName t)) = some (ts.any fun t => t.has x)
  | [] => kitAny_nil
  | t :: ts => by
    rw [List.map_cons, List.any_cons]
    refine kitAny_cons (h t) (fun e => ?_) fun e => ?_
    · rw [e, Bool.false_or]; exact kit_any h ts
    · rw [e, Bool.true_or]
def isOut (ts : List Ty) (d : D) : M (D × Bool) := (view d).bind fun x => guard (noRef x = true) (D.bl (ts.any fun t => t.has x)).v
def rIsD1 (K : PySem.W.Frag) (t : Ty) : List V → Hp → VK → Prop := fun vs H Q => ∃ v1 d S ι, vs = [v1, tyV t] ∧ PV K H ι v1 d ∧ StR K H ι S ∧ Out K ι H (isOut [t] d S) fun r ι' H' => ∀ v, VR K H H' ι' v r → Q v H'
def rIsDT (K : PySem.W.Frag) (ts : List Ty) : List V → Hp → VK → Prop := fun vs H Q => ∃ v1 tp d S ι, vs = [v1, .ref tp] ∧ H tp = some (.tup (ts.map tyV)) ∧ PV K H ι v1 d ∧ StR K H ι S ∧ Out K ι H (isOut ts d S) fun r ι' H' => ∀ v, VR K H H' ι' v r → Q v H'
theorem isOut_ok {K : PySem.W.Frag} {H : Hp} {ι : List Addr} {S : Store} {ts : List Ty} {d : D} {v1 : V} {k : D × Bool → List Addr → Hp → Prop} (p : PV K H ι v1 d) (hS : StR K H ι S) (h : Out K ι H (isOut ts d S) k) :
    ∃ x, RV K H ι v1 x ∧ (∀ n, x ≠ .ref n) ∧ k (.bl (ts.any fun t => t.has x), false) ι H := by
  obtain ⟨x, r1, h⟩ := view1 p hS h
  obtain ⟨g, h⟩ := h.guard
  have nr : ∀ n, x ≠ .ref n := by
    intro n e
    subst e
    cases g
  exact ⟨x, r1, nr, h.v hS⟩
theorem cr_is1 (t : Ty) : CallR X (.builtin "isinstance") (rIsD1 X.K t) := by
  intro pins s σ H vs us Q I r h
  obtain ⟨v1, d, S, ι, rfl, p1, hS, h⟩ := h
  obtain ⟨x, r1, hr, q⟩ := isOut_ok p1 hS h
  obtain ⟨a, ty, ke⟩ := kit_has r1 hr
  exact call_isi pins s σ H _ us Q I r ⟨v1, tyV t, .type a, .type (tyName t), t.has x, rfl, .ty _, ty, ke t, q _ (by rw [show ([t].any fun t => t.has x) = t.has x from by simp]; exact FV.bl _)⟩
theorem paired_ty : ∀ ts : List Ty, Paired ClsV (ts.map tyV) (ts.map fun t => Value.type (tyName t))
  | [] => .nil
  | t :: ts => .cons (.ty _) (paired_ty ts)
theorem cr_isT (ts : List Ty) : CallR X (.builtin "isinstance") (rIsDT X.K ts) := by
  intro pins s σ H vs us Q I r h
  obtain ⟨v1, tp, d, S, ι, rfl, ht, p1, hS, h⟩ := h
  obtain ⟨x, r1, hr, q⟩ := isOut_ok p1 hS h
  obtain ⟨a, ty, ke⟩ := kit_has r1 hr
  exact call_isiT pins s σ H _ us Q I r ⟨v1, tp, _, .type a, _, _, rfl, ht, paired_ty ts, ty, kit_any ke ts, q _ (.bl _)⟩
end
end Dv

set_option Elab.async false
set_option linter.all false
set_option maxRecDepth 100000
set_option maxHeartbeats 1000000
/-! Dv6: what is walked; the text of an expression against the small language. -/
namespace Dv
open PySem PySem.Spec PyProof.Rows L2

/-! ### what a loop walks -/
inductive VI where
  | one (v : V) | two (v w : V)
structure Walk (K : PySem.W.Frag) (J : L2.It) (wt : List (Addr × HO)) (vi : List VI) : Prop where
  go : ∀ (i : Nat) (H : Hp), (∀ p ∈ wt, H p.1 = some p.2) → i < vi.length → J.go i H
  stop : ∀ (i : Nat) (H : Hp), (∀ p ∈ wt, H p.1 = some p.2) → vi.length ≤ i → J.stop i H
  yld : ∀ (i : Nat) (H : Hp) (x : V) (H' : Hp) (y : VI), (∀ p ∈ wt, H p.1 = some p.2) → vi[i]? = some y → J.yld i H x H' →
    match y with
    | .one v => x = v ∧ H' = H
    | .two v w => ∃ T, x = .ref T ∧ H T = none ∧ H' = upd H T (.tup [v, w])
section
variable {K : PySem.W.Frag}
/-- a list, a tuple that stands as it is watched -/
def WL (K : PySem.W.Frag) (a : Addr) (xs : List V) (wt : List (Addr × HO)) : Prop := ∀ H : Hp, (∀ p ∈ wt, H p.1 = some p.2) → SqL K H a xs
def WT (K : PySem.W.Frag) (a : Addr) (xs : List V) (wt : List (Addr × HO)) : Prop := ∀ H : Hp, (∀ p ∈ wt, H p.1 = some p.2) → SqT K H a xs
theorem get_lt {α : Type} {l : List α} {i : Nat} (h : i < l.length) : ∃ x, l[i]? = some x := ⟨l[i], List.getElem?_eq_getElem h⟩
theorem walk_list {a : Addr} {xs : List V} {wt : List (Addr × HO)} (h : WL K a xs wt) : Walk K (Itl K a) wt (xs.map .one) where
  go := fun i H w hi => by
    rw [List.length_map] at hi
    obtain ⟨x, e⟩ := get_lt hi
    exact ⟨xs, x, h H w, e⟩
  stop := fun i H w hi => ⟨xs, h H w, by rwa [List.length_map] at hi⟩
  yld := fun i H x H' y w hy hj => by
    rw [List.getElem?_map] at hy
    have e := hj.2 xs (h H w)
    rw [e] at hy
    cases hy
    exact ⟨rfl, hj.1⟩
theorem walk_tup {a : Addr} {xs : List V} {wt : List (Addr × HO)} (h : WT K a xs wt) : Walk K (Itt K a) wt (xs.map .one) where
  go := fun i H w hi => by
    rw [List.length_map] at hi
    obtain ⟨x, e⟩ := get_lt hi
    exact ⟨xs, x, h H w, e⟩
  stop := fun i H w hi => ⟨xs, h H w, by rwa [List.length_map] at hi⟩
  yld := fun i H x H' y w hy hj => by
    rw [List.getElem?_map] at hy
    have e := hj.2 xs (h H w)
    rw [e] at hy
    cases hy
    exact ⟨rfl, hj.1⟩
theorem walk_str (s : List Nat) : Walk K (Its ⟨s.toArray⟩) [] (s.map fun c => .one (.str ⟨#[c]⟩)) where
  go := fun i H w hi => by
    rw [List.length_map] at hi
    show i < s.toArray.size
    simpa using hi
  stop := fun i H w hi => by
    rw [List.length_map] at hi
    show s.toArray.size ≤ i
    simpa using hi
  yld := fun i H x H' y w hy hj => by
    obtain ⟨e, c, hc, rfl⟩ := hj
    have hc : s[i]? = some c := by simpa using hc
    rw [List.getElem?_map, hc] at hy
    cases hy
    exact ⟨rfl, e⟩
theorem walk_range (lo : Int) (n : Nat) : Walk K (Itr lo n) [] ((List.range n).map fun (k : Nat) => .one (.int (lo + (k : Int)))) where
  go := fun i H w hi => by
    rw [List.length_map, List.length_range] at hi
    exact hi
  stop := fun i H w hi => by
    rw [List.length_map, List.length_range] at hi
    exact hi
  yld := fun i H x H' y w hy hj => by
    rw [List.getElem?_map] at hy
    cases q : (List.range n)[i]? with
    | none => rw [q] at hy; cases hy
    | some k =>
      rw [q] at hy
      obtain ⟨hk, e⟩ := List.getElem?_eq_some_iff.mp q
      rw [List.getElem_range] at e
      subst e
      cases hy
      exact ⟨hj.2, hj.1⟩
theorem walk_zip {a b : Addr} {xs ys : List V} {wt : List (Addr × HO)} (h1 : WL K a xs wt) (h2 : WL K b ys wt) : Walk K (Itz K a b) wt ((xs.zip ys).map fun p => .two p.1 p.2) where
  go := fun i H w hi => by
    rw [List.length_map, List.length_zip] at hi
    obtain ⟨x, e⟩ := get_lt (l := xs) (i := i) (by omega)
    obtain ⟨y, e'⟩ := get_lt (l := ys) (i := i) (by omega)
    exact ⟨xs, ys, x, y, h1 H w, h2 H w, e, e'⟩
  stop := fun i H w hi => by
    rw [List.length_map, List.length_zip] at hi
    exact ⟨xs, ys, h1 H w, h2 H w, by omega⟩
  yld := fun i H x H' y w hy hj => by
    obtain ⟨T, u, v, rfl, hT, rfl, e1, e2⟩ := hj
    have e1 := e1 xs (h1 H w)
    have e2 := e2 ys (h2 H w)
    have e3 : (xs.zip ys)[i]? = some (u, v) := by rw [List.getElem?_zip_eq_some]; exact ⟨e1, e2⟩
    rw [List.getElem?_map, e3] at hy
    cases hy
    exact ⟨T, rfl, hT, rfl⟩
theorem walk_zipT {a b : Addr} {xs ys : List V} {wt : List (Addr × HO)} (h1 : WT K a xs wt) (h2 : WT K b ys wt) : Walk K (RZ.ItzT K a b) wt ((xs.zip ys).map fun p => .two p.1 p.2) where
  go := fun i H w hi => by
    rw [List.length_map, List.length_zip] at hi
    obtain ⟨x, e⟩ := get_lt (l := xs) (i := i) (by omega)
    obtain ⟨y, e'⟩ := get_lt (l := ys) (i := i) (by omega)
    exact ⟨xs, ys, x, y, h1 H w, h2 H w, e, e'⟩
  stop := fun i H w hi => by
    rw [List.length_map, List.length_zip] at hi
    exact ⟨xs, ys, h1 H w, h2 H w, by omega⟩
  yld := fun i H x H' y w hy hj => by
    obtain ⟨T, u, v, rfl, hT, rfl, e1, e2⟩ := hj
    have e1 := e1 xs (h1 H w)
    have e2 := e2 ys (h2 H w)
    have e3 : (xs.zip ys)[i]? = some (u, v) := by rw [List.getElem?_zip_eq_some]; exact ⟨e1, e2⟩
    rw [List.getElem?_map, e3] at hy
    cases hy
    exact ⟨T, rfl, hT, rfl⟩
theorem walk_enum {a : Addr} {xs : List V} {wt : List (Addr × HO)} (h1 : WL K a xs wt) : Walk K (Ite K a) wt (((List.range xs.length).zip xs).map fun p => .two (.int (p.1 : Nat)) p.2) where
  go := fun i H w hi => by
    rw [List.length_map, List.length_zip, List.length_range] at hi
    obtain ⟨x, e⟩ := get_lt (l := xs) (i := i) (by omega)
    exact ⟨xs, x, h1 H w, e⟩
  stop := fun i H w hi => by
    rw [List.length_map, List.length_zip, List.length_range] at hi
    exact ⟨xs, h1 H w, by omega⟩
  yld := fun i H x H' y w hy hj => by
    obtain ⟨T, u, rfl, hT, rfl, e1⟩ := hj
    have e1 := e1 xs (h1 H w)
    have hi := (List.getElem?_eq_some_iff.mp e1).1
    have e3 : ((List.range xs.length).zip xs)[i]? = some (i, u) := by
      rw [List.getElem?_zip_eq_some]
      exact ⟨by rw [List.getElem?_range hi], e1⟩
    rw [List.getElem?_map, e3] at hy
    cases hy
    exact ⟨T, rfl, hT, rfl⟩
end

/-- what has been walked, as data -/
def VIR (K : PySem.W.Frag) (H : Hp) (ι : List Addr) : VI → D → Prop
  | .one v, d => FV K H ι v d
  | .two v w, d => ∃ a b, d = .tup [a, b] ∧ FV K H ι v a ∧ FV K H ι w b
inductive VIs (K : PySem.W.Frag) (H : Hp) (ι : List Addr) : List VI → List D → Prop
  | nil : VIs K H ι [] []
  | cons {v : VI} {vs : List VI} {d : D} {ds : List D} : VIR K H ι v d → VIs K H ι vs ds → VIs K H ι (v :: vs) (d :: ds)
section
variable {K : PySem.W.Frag} {H H' : Hp} {ι ι' : List Addr} {S S' : Store}
theorem VIs.length : ∀ {vs : List VI} {ds : List D}, VIs K H ι vs ds → vs.length = ds.length
  | _, _, .nil => rfl
  | _, _, .cons _ h => by simp [VIs.length h]
theorem VIs.get : ∀ {vs : List VI} {ds : List D}, VIs K H ι vs ds → ∀ {i : Nat} {d : D}, ds[i]? = some d → ∃ v, vs[i]? = some v ∧ VIR K H ι v d
  | _, _, .nil, i, d, e => by simp at e
  | _, _, .cons h _, 0, d, e => by simp at e; subst e; exact ⟨_, rfl, h⟩
  | _, _, .cons _ h, i + 1, d, e => by
    obtain ⟨v, e1, e2⟩ := VIs.get h (i := i) (d := d) (by simpa using e)
    exact ⟨v, by simpa using e1, e2⟩
theorem VIR.up (P : Post K ι H S' ι' H') {v : VI} {d : D} (h : VIR K H ι v d) : VIR K H' ι' v d := by
  cases v with
  | one v => exact P.upV h
  | two v w => obtain ⟨a, b, e, h1, h2⟩ := h; exact ⟨a, b, e, P.upV h1, P.upV h2⟩
theorem VIs.up (P : Post K ι H S' ι' H') : ∀ {vs : List VI} {ds : List D}, VIs K H ι vs ds → VIs K H' ι' vs ds
  | _, _, .nil => .nil
  | _, _, .cons h t => .cons (h.up P) (VIs.up P t)
theorem vis_one : ∀ {xs : List V} {ds : List D}, FVs K H ι xs ds → VIs K H ι (xs.map .one) ds
  | _, _, .nil => .nil
  | _, _, .cons h t => .cons h (vis_one t)
theorem vis_str : ∀ (s : List Nat), (∀ c ∈ s, c < 0x110000) → VIs K H ι (s.map fun c => .one (.str ⟨#[c]⟩)) (s.map fun c => D.str [c])
  | [], _ => .nil
  | c :: s, h => .cons (.str [c] fun z hz => by
      have : z = c := by simpa using hz
      subst this
      exact h z (by simp)) (vis_str s fun z hz => h z (by simp [hz]))
theorem vis_range (lo : Int) (l : List Nat) : VIs K H ι (l.map fun (k : Nat) => .one (.int (lo + (k : Int)))) (l.map fun (k : Nat) => D.int (lo + (k : Int))) := by
  induction l with
  | nil => exact .nil
  | cons k l ih => exact .cons (.int _) ih
theorem vis_zip : ∀ {xs ys : List V} {ds es : List D}, FVs K H ι xs ds → FVs K H ι ys es → VIs K H ι ((xs.zip ys).map fun p => .two p.1 p.2) ((ds.zip es).map fun p => D.tup [p.1, p.2])
  | _, _, _, _, .nil, _ => .nil
  | _, _, _, _, .cons _ _, .nil => .nil
  | _, _, _, _, .cons h t, .cons h' t' => .cons ⟨_, _, rfl, h, h'⟩ (vis_zip t t')
theorem vis_enum : ∀ (l : List Nat) {xs : List V} {ds : List D}, FVs K H ι xs ds → VIs K H ι ((l.zip xs).map fun p => .two (.int (p.1 : Nat)) p.2) ((l.zip ds).map fun p => D.tup [.int p.1, p.2])
  | [], _, _, _ => .nil
  | _ :: _, _, _, .nil => .nil
  | k :: l, _, _, .cons h t => .cons ⟨_, _, rfl, .int _, h⟩ (vis_enum l t)
end
end Dv

set_option Elab.async false
set_option linter.all false
set_option maxRecDepth 100000
set_option maxHeartbeats 1000000
/-! Dv7: expressions, case by case. -/
namespace Dv
open PySem PySem.Spec PyProof.Rows L2

/-- read, not kept; what is no own slot is new or for all -/
def PVx (K : PySem.W.Frag) (H H' : Hp) (ι' : List Addr) (own : Bool) (v : V) (d : D) : Prop :=
  FV K H' ι' v d ∨ ∃ a, v = .ref a ∧ MOr K H' ι' a d ∧ a ∉ ι' ∧ (own = false → H a = none)
theorem PVx.pv {K : PySem.W.Frag} {H H' : Hp} {ι' : List Addr} {own : Bool} {v : V} {d : D} (h : PVx K H H' ι' own v d) : PV K H' ι' v d := by
  rcases h with h | ⟨a, e, h1, h2, _⟩
  · exact .inl h
  · exact .inr ⟨a, e, h1, h2⟩

section
variable (K : PySem.W.Frag) (G : List D) (call : Nat → List D → M (D × Bool))
def tE (e : E) : TE := fun σ H Q => ∃ ρ S ι, EnvR K H ι ρ σ ∧ StR K H ι S ∧ Out K ι H (evalE G call ρ e S) fun x ι' H' => ∀ v, VR K H H' ι' v x → Q v H'
def tP (e : E) : TE := fun σ H Q => ∃ ρ S ι, EnvR K H ι ρ σ ∧ StR K H ι S ∧ Out K ι H (peek ρ e (evalE G call ρ e) S) fun d ι' H' => ∀ v, PVx K H H' ι' (ownE ρ e) v d → Q v H'
def tD (e : E) : TE := fun σ H Q => ∃ ρ S ι, EnvR K H ι ρ σ ∧ StR K H ι S ∧ Out K ι H (evalE G call ρ e S) fun x ι' H' => ∀ v, FV K H' ι' v x.1 → Q v H'
def tT (e : E) : TT := fun σ H Q => ∃ ρ S ι, EnvR K H ι ρ σ ∧ StR K H ι S ∧ Out K ι H (((evalE G call ρ e).bind fun x => asB x.1) S) fun b ι' H' => Q b H'
def tEs (es : Es) : TA := fun σ H Q => ∃ ρ S ι, EnvR K H ι ρ σ ∧ StR K H ι S ∧ Out K ι H (evalEs G call ρ es S) fun ds ι' H' => ∀ vs, FVs K H' ι' vs ds → Q vs H'
def tO (o : Eo) : TO := fun σ H Q => ∃ ρ S ι, EnvR K H ι ρ σ ∧ StR K H ι S ∧ Out K ι H (evalEo G call ρ o S) fun i ι' H' => Q i H'
def tB (o : Eo) : TT := fun σ H Q => ∃ ρ S ι, EnvR K H ι ρ σ ∧ StR K H ι S ∧ Out K ι H (evalB G call ρ o S) fun b ι' H' => Q b H'
/-- the slots that hold what this def alone holds -/
def Own (ρ : Env) (σ : L2.St) (a : Addr) : Prop := ∃ (i : Nat) (d : D), ρ[i]? = some (some (.own d)) ∧ σ[i]? = some (some (.ref a))
def tI (src : It) : TI := fun σ H R => ∃ ρ S ι, EnvR K H ι ρ σ ∧ StR K H ι S ∧ Out K ι H (evalIt G call ρ src S) fun ds ι' H' =>
  ∀ J wt vi, Walk K J wt vi → (∀ p ∈ wt, H' p.1 = some p.2 ∧ p.1 ∉ ι' ∧ (noOwn ρ src = true → ¬ Own ρ σ p.1)) → VIs K H' ι' vi ds → R J H'
end

section
variable {X : Cx} {x y z : Expr} {pos : Pos}
theorem _root_.L2.PE.im {t t' : TE} (h : PE X x t) (i : ∀ σ H Q, t' σ H Q → t σ H Q) : PE X x t' := ⟨fun pins s σ H Q I q => h.run pins s σ H Q I (i _ _ _ q)⟩
theorem _root_.L2.PT.im {t t' : TT} (h : PT X x t) (i : ∀ σ H Q, t' σ H Q → t σ H Q) : PT X x t' := ⟨fun pins s σ H Q I q => h.run pins s σ H Q I (i _ _ _ q)⟩
theorem _root_.L2.PW.im {t t' : TT} (h : PW X x t) (i : ∀ σ H Q, t' σ H Q → t σ H Q) : PW X x t' := ⟨fun w pins s σ H Q I q => h.run w pins s σ H Q I (i _ _ _ q)⟩
theorem _root_.L2.PA.im {xs : List Expr} {t t' : TA} (h : PA X xs t) (i : ∀ σ H Q, t' σ H Q → t σ H Q) : PA X xs t' := ⟨fun p pins s σ H Q I q => h.run p pins s σ H Q I (i _ _ _ q)⟩
theorem _root_.L2.PI.im {tg it : Expr} {t t' : TI} (h : PI X tg it t) (i : ∀ σ H R, t' σ H R → t σ H R) : PI X tg it t' := ⟨fun pins s σ H R I q => h.run pins s σ H R I (i _ _ _ q)⟩
theorem _root_.L2.PI.alt {tg it : Expr} {t t' : TI} (h : PI X tg it t) (h' : PI X tg it t') : PI X tg it (fun σ H R => t σ H R ∨ t' σ H R) :=
  ⟨fun pins s σ H R I q => q.elim (h.run pins s σ H R I) (h'.run pins s σ H R I)⟩

variable {G : List D} {call : Nat → List D → M (D × Bool)} {ρ : Env} {S : Store} {ι : List Addr} {σ : L2.St} {H : Hp} {K : PySem.W.Frag} {β : Type} {k : β → List Addr → Hp → Prop}
theorem tP.go {e : E} {f : D → M β} {Q : VK} (hE : EnvR K H ι ρ σ) (hS : StR K H ι S) (h : Out K ι H (((peek ρ e (evalE G call ρ e)).bind f) S) k)
    (c : ∀ d S1 ι1 H1 v, Post K ι H S1 ι1 H1 → PVx K H H1 ι1 (ownE ρ e) v d → Out K ι1 H1 (f d S1) k → Q v H1) : tP K G call e σ H Q := by
  obtain ⟨d, S1, e1, k1⟩ := h.bind
  refine ⟨ρ, S, ι, hE, hS, ?_⟩
  rw [e1]
  exact fun ι1 H1 P v hv => c d S1 ι1 H1 v P hv (k1 ι1 H1 P)
theorem tP.goE {e : E} {f : D → M β} {Q : VK} (hE : EnvR K H ι ρ σ) (hS : StR K H ι S) {d : D} {S1 : Store} (e1 : peek ρ e (evalE G call ρ e) S = .ok d S1) (h : Out K ι H (((peek ρ e (evalE G call ρ e)).bind f) S) k)
    (c : ∀ ι1 H1 v, Post K ι H S1 ι1 H1 → PVx K H H1 ι1 (ownE ρ e) v d → Out K ι1 H1 (f d S1) k → Q v H1) : tP K G call e σ H Q := by
  obtain ⟨d', S1', e1', k1⟩ := h.bind
  rw [e1] at e1'
  cases e1'
  refine ⟨ρ, S, ι, hE, hS, ?_⟩
  rw [e1]
  exact fun ι1 H1 P v hv => c ι1 H1 v P hv (k1 ι1 H1 P)
theorem tE.go {e : E} {f : D × Bool → M β} {Q : VK} (hE : EnvR K H ι ρ σ) (hS : StR K H ι S) (h : Out K ι H (((evalE G call ρ e).bind f) S) k)
    (c : ∀ d S1 ι1 H1 v, Post K ι H S1 ι1 H1 → VR K H H1 ι1 v d → Out K ι1 H1 (f d S1) k → Q v H1) : tE K G call e σ H Q := by
  obtain ⟨d, S1, e1, k1⟩ := h.bind
  refine ⟨ρ, S, ι, hE, hS, ?_⟩
  rw [e1]
  exact fun ι1 H1 P v hv => c d S1 ι1 H1 v P hv (k1 ι1 H1 P)
theorem tD.go {e : E} {f : D × Bool → M β} {Q : VK} (hE : EnvR K H ι ρ σ) (hS : StR K H ι S) (h : Out K ι H (((evalE G call ρ e).bind f) S) k)
    (c : ∀ d S1 ι1 H1 v, Post K ι H S1 ι1 H1 → FV K H1 ι1 v d.1 → Out K ι1 H1 (f d S1) k → Q v H1) : tD K G call e σ H Q := by
  obtain ⟨d, S1, e1, k1⟩ := h.bind
  refine ⟨ρ, S, ι, hE, hS, ?_⟩
  rw [e1]
  exact fun ι1 H1 P v hv => c d S1 ι1 H1 v P hv (k1 ι1 H1 P)
theorem tT.go {e : E} {f : Bool → M β} {Q : Bool → Hp → Prop} (hE : EnvR K H ι ρ σ) (hS : StR K H ι S) (h : Out K ι H (((evalE G call ρ e).bind fun x => (asB x.1).bind f) S) k)
    (c : ∀ d S1 ι1 H1, Post K ι H S1 ι1 H1 → Out K ι1 H1 (f d S1) k → Q d H1) : tT K G call e σ H Q := by
  have h : Out K ι H ((((evalE G call ρ e).bind fun x => asB x.1).bind f) S) k := by
    have e : (((evalE G call ρ e).bind fun x => asB x.1).bind f) S = ((evalE G call ρ e).bind fun x => (asB x.1).bind f) S := by
      unfold M.bind
      cases evalE G call ρ e S <;> rfl
    rw [e]; exact h
  obtain ⟨d, S1, e1, k1⟩ := h.bind
  refine ⟨ρ, S, ι, hE, hS, ?_⟩
  rw [e1]
  exact fun ι1 H1 P => c d S1 ι1 H1 P (k1 ι1 H1 P)
theorem tEs.go {es : Es} {f : List D → M β} {Q : List V → Hp → Prop} (hE : EnvR K H ι ρ σ) (hS : StR K H ι S) (h : Out K ι H (((evalEs G call ρ es).bind f) S) k)
    (c : ∀ ds S1 ι1 H1 vs, Post K ι H S1 ι1 H1 → FVs K H1 ι1 vs ds → Out K ι1 H1 (f ds S1) k → Q vs H1) : tEs K G call es σ H Q := by
  obtain ⟨d, S1, e1, k1⟩ := h.bind
  refine ⟨ρ, S, ι, hE, hS, ?_⟩
  rw [e1]
  exact fun ι1 H1 P v hv => c d S1 ι1 H1 v P hv (k1 ι1 H1 P)
theorem tO.go {o : Eo} {f : Option Int → M β} {Q : Option Int → Hp → Prop} (hE : EnvR K H ι ρ σ) (hS : StR K H ι S) (h : Out K ι H (((evalEo G call ρ o).bind f) S) k)
    (c : ∀ i S1 ι1 H1, Post K ι H S1 ι1 H1 → Out K ι1 H1 (f i S1) k → Q i H1) : tO K G call o σ H Q := by
  obtain ⟨d, S1, e1, k1⟩ := h.bind
  refine ⟨ρ, S, ι, hE, hS, ?_⟩
  rw [e1]
  exact fun ι1 H1 P => c d S1 ι1 H1 P (k1 ι1 H1 P)

/-- a new list left to all -/
theorem Post.frz {S' : Store} {ι' : List Addr} {H' : Hp} {a : Addr} {xs : List V} {ds : List D} {od : Obj} (P : Post K ι H S' ι' H') (hn : H a = none) (hi : a ∉ ι') (ha : H' a = some (.lst xs)) (hv : FVs K H' ι' xs ds) :
    Post K ι H S' ι' (upd H' a (.frz od (.lst xs))) ∧ FV K (upd H' a (.frz od (.lst xs))) ι' (.ref a) (.lst ds) := by
  have ne : ∀ b o, H b = some o → b ≠ a := fun b o e z => by rw [z, hn] at e; cases e
  have t : ∀ b zs, H' b = some (.tup zs) → upd H' a (.frz od (.lst xs)) b = some (.tup zs) := fun b zs e => by rw [upd_ne (by rintro rfl; rw [ha] at e; cases e)]; exact e
  have f : ∀ b o u, H' b = some (.frz o u) → upd H' a (.frz od (.lst xs)) b = some (.frz o u) := fun b o u e => by rw [upd_ne (by rintro rfl; rw [ha] at e; cases e)]; exact e
  refine ⟨⟨fun b zs e => ?_, fun b o u e => ?_, fun b o e hb => ?_, P.pre, P.st.len, P.st.nd, fun n b d h1 h2 => ?_⟩, .lst (.inl ⟨_, upd_same⟩) (hv.up t f fun _ _ q => q)⟩
  · exact t _ _ (P.tups b zs e)
  · exact f _ _ _ (P.frzs b o u e)
  · rw [upd_ne (ne b o e)]; exact P.keep b o e hb
  · obtain ⟨es, ys, e, hH, hw⟩ := P.st.obj n b d h1 h2
    have hb : b ≠ a := fun z => hi (z ▸ List.mem_of_getElem? h1)
    exact ⟨es, ys, e, by rw [upd_ne hb]; exact hH, hw.up t f fun _ _ q => q⟩
theorem peD {e : E} (h : PE X x (tE X.K G call e)) : PE X x (tD X.K G call e) := by
  refine ⟨fun pins s σ H Q I hq => ?_⟩
  obtain ⟨ρ, S, ι, hE, hS, ho⟩ := hq
  cases q : evalE G call ρ e S with
  | stuck => rw [q] at ho; exact ho.elim
  | ok d S' =>
    rw [q] at ho
    refine thn (h.run pins s σ H (fun v H' => Q v H' ∨ ∃ a xs, v = .ref a ∧ H' a = some (.lst xs) ∧ ∀ od, Q v (upd H' a (.frz od (.lst xs)))) I ⟨ρ, S, ι, hE, hS, ?_⟩) fun u s' ⟨v, H', I', r, c⟩ => ?_
    · rw [q]
      intro ι' H' P v hv
      obtain ⟨d, b⟩ := d
      cases b with
      | false => exact .inl (ho ι' H' P v hv)
      | true =>
        obtain ⟨a, rfl, hn, hi, ds, xs, e, hH, hvs⟩ := hv
        refine .inr ⟨a, xs, rfl, hH, fun od => ?_⟩
        obtain ⟨P', hf⟩ := P.frz (od := od) hn hi hH hvs
        refine ho ι' _ P' _ ?_
        have e : d = .lst ds := e
        subst e
        exact hf
    · rcases c with c | ⟨a, xs, rfl, hH, c⟩
      · exact ⟨v, H', I', r, c⟩
      · obtain ⟨od, I2⟩ := I'.lock hH trivial
        exact ⟨_, _, I2, r, c od⟩
theorem pvx_of {S' : Store} {ι' : List Addr} {H' : Hp} {v : V} {d : D × Bool} (h : VR K H H' ι' v d) (own : Bool) : PVx K H H' ι' own v d.1 := by
  obtain ⟨d, b⟩ := d
  cases b with
  | false => exact .inl h
  | true =>
    obtain ⟨a, e, hn, hi, hm⟩ := h
    exact .inr ⟨a, e, hm, hi, fun _ => hn⟩
theorem peP {e : E} (h : PE X x (tE X.K G call e)) (ne : ∀ i, e ≠ .var i) : PE X x (tP X.K G call e) := h.im fun σ H Q ⟨ρ, S, ι, hE, hS, ho⟩ => by
  refine ⟨ρ, S, ι, hE, hS, ?_⟩
  have ho : Out X.K ι H (((evalE G call ρ e).bind fun v => M.ret v.1) S) fun d ι' H' => ∀ v, PVx X.K H H' ι' (ownE ρ e) v d → Q v H' := by
    cases e <;> first | exact ho | exact absurd rfl (ne _)
  obtain ⟨d, S1, e1, k1⟩ := ho.bind
  rw [e1]
  exact fun ι' H' P v hv => (k1 ι' H' P).ret P.st v (pvx_of (S' := S1) hv _)

/-! ### names, constants -/
theorem rd_ok {i : Nat} {d : D} {S' : Store} (e : rd ρ i S = .ok d S') : ρ[i]? = some (some (.val d)) ∧ S' = S := by
  unfold rd at e
  cases q : ρ[i]? with
  | none => rw [q] at e; cases e
  | some o =>
    cases o with
    | none => rw [q] at e; cases e
    | some sl =>
      cases sl with
      | val d' => rw [q] at e; cases e; exact ⟨rfl, rfl⟩
      | own d' => rw [q] at e; cases e
theorem c_var {i : Nat} {n : Str} (hN : X.N[i]? = some n) (hv : Vis X.env.scope n) (hd : (n == ("__debug__" : Str)) = false) (hcd : (n == ("__classdict__" : Str)) = false) : PE X (.Name n pos) (tE X.K G call (.var i)) :=
  (pe_var hN hv hd hcd).im fun σ H Q ⟨ρ, S, ι, hE, hS, ho⟩ => by
    have ho : Out X.K ι H (((rd ρ i).bind D.v) S) _ := ho
    obtain ⟨d, S1, e1, k1⟩ := ho.bind
    obtain ⟨e2, rfl⟩ := rd_ok e1
    obtain ⟨v, h1, h2⟩ := hE.val i d e2
    exact ⟨v, h1, (k1 _ _ (Post.refl hS)).v hS v h2⟩
theorem c_varP {i : Nat} {n : Str} (hN : X.N[i]? = some n) (hv : Vis X.env.scope n) (hd : (n == ("__debug__" : Str)) = false) (hcd : (n == ("__classdict__" : Str)) = false) : PE X (.Name n pos) (tP X.K G call (.var i)) :=
  (pe_var hN hv hd hcd).im fun σ H Q ⟨ρ, S, ι, hE, hS, ho⟩ => by
    have ho : Out X.K ι H (pk ρ i S) _ := ho
    cases q : ρ[i]? with
    | none => unfold pk at ho; rw [q] at ho; exact ho.elim
    | some o =>
      cases o with
      | none => unfold pk at ho; rw [q] at ho; exact ho.elim
      | some sl =>
        cases sl with
        | val d =>
          unfold pk at ho; rw [q] at ho
          obtain ⟨v, h1, h2⟩ := hE.val i d q
          exact ⟨v, h1, ho.ret hS v (.inl h2)⟩
        | own d =>
          unfold pk at ho; rw [q] at ho
          obtain ⟨a, h1, h2, h3⟩ := hE.own i d q
          refine ⟨_, h1, ho.ret hS _ (.inr ⟨a, rfl, h2, h3, fun e => ?_⟩)⟩
          simp only [ownE, isOwn, q] at e
          cases e
theorem c_con {v : V} {d : D} {e : E} (h : PE X x (tC v)) (he : ∀ ρ, evalE G call ρ e = d.v) (hf : ∀ H ι, FV X.K H ι v d) : PE X x (tE X.K G call e) :=
  h.im fun σ H Q ⟨ρ, S, ι, hE, hS, ho⟩ => by
    rw [he] at ho
    exact ho.v hS v (hf H ι)

/-! ### operators -/
theorem c_bin (kl : KL X.K) {o : Bi} {a b : E} (ha : PE X x (tP X.K G call a)) (hb : PE X y (tP X.K G call b)) : PE X (.BinOp x (biOp o) y pos) (tE X.K G call (.bin o a b)) :=
  (pe_op (op_bin kl o) ha hb).im fun σ H Q ⟨ρ, S, ι, hE, hS, ho⟩ =>
    tP.go hE hS ho fun d S1 ι1 H1 v P1 hv h1 => tP.go (hE.up P1) P1.st h1 fun e S2 ι2 H2 w P2 hw h2 =>
      ⟨d, e, S2, ι2, P2.upP hv.pv, hw.pv, P2.st, h2.imp fun r S' ι' H' P' hk v' hv' => hk v' (VR.back (P1.trans P2) hS hv')⟩
theorem c_neg {a : E} (ha : PE X x (tD X.K G call a)) : PE X (.UnaryOp .USub x pos) (tE X.K G call (.neg a)) :=
  (pe_un un_neg ha).im fun σ H Q ⟨ρ, S, ι, hE, hS, ho⟩ => tD.go hE hS ho fun d S1 ι1 H1 v P1 hv h1 => by
    obtain ⟨i, S2, e2, k2⟩ := h1.bind
    obtain ⟨d, b⟩ := d
    cases d with
    | int j =>
      cases e2
      cases hv
      exact ⟨_, rfl, (k2 _ _ (Post.refl P1.st)).v P1.st _ (.int _)⟩
    | _ => cases e2
theorem c_cmpR {o : Cm} {a b : E} (hu : X.A.units + 64 < cLine) : ∀ σ H Q, tE X.K G call (.cmp o a b) σ H Q → tOp (rC2 X.K o) (tP X.K G call a) (tP X.K G call b) σ H Q :=
  fun σ H Q ⟨ρ, S, ι, hE, hS, ho⟩ =>
    tP.go hE hS ho fun d S1 ι1 H1 v P1 hv h1 => tP.go (hE.up P1) P1.st h1 fun e S2 ι2 H2 w P2 hw h2 => by
      refine ⟨d, e, S2, ι2, P2.upP hv.pv, hw.pv, P2.st, ?_⟩
      obtain ⟨c, S3, e3, k3⟩ := h2.bind
      rw [e3]
      exact fun ι' H' P' => (k3 ι' H' P').v P'.st _ (.bl c)
theorem c_cmp {o : Cm} {a b : E} (hu : X.A.units + 64 < cLine) (ha : PE X x (tP X.K G call a)) (hb : PE X y (tP X.K G call b)) (hm : behindInMarks (cmOp o) y = false) : PE X (.Compare x [cmOp o] [y] pos) (tE X.K G call (.cmp o a b)) :=
  (pe_cmpR (op_cmp hu o) ha hb hm).im (c_cmpR hu)
theorem c_cmpT {o : Cm} {a b : E} (hu : X.A.units + 64 < cLine) (ha : PE X x (tP X.K G call a)) (hb : PE X y (tP X.K G call b)) (hm : behindInMarks (cmOp o) y = false) : PT X (.Compare x [cmOp o] [y] pos) (tT X.K G call (.cmp o a b)) :=
  (pt_cmpR (op_cmp hu o) ha hb hm).im fun σ H Q ⟨ρ, S, ι, hE, hS, ho⟩ => by
    refine c_cmpR hu σ H _ ⟨ρ, S, ι, hE, hS, ?_⟩
    obtain ⟨d, S1, e1, k1⟩ := ho.bind
    rw [e1]
    intro ι' H' P v hv
    obtain ⟨d, b⟩ := d
    have k1 := k1 ι' H' P
    cases d with
    | bl c =>
      cases b with
      | false => cases hv; exact ⟨c, rfl, k1.ret P.st⟩
      | true => obtain ⟨_, _, _, _, _, _, e, _⟩ := hv; cases e
    | _ => exact k1.elim
end
end Dv

set_option Elab.async false
set_option linter.all false
set_option maxRecDepth 100000
set_option maxHeartbeats 1000000
/-! Dv8: expressions, further cases. -/
namespace Dv
open PySem PySem.Spec PyProof.Rows L2

section
variable {X : Cx} {x y z : Expr} {pos : Pos} {G : List D} {call : Nat → List D → M (D × Bool)}
/-- a value that is a truth value, as a test -/
theorem asB_ok {d : D} {b : Bool} {S S' : Store} (h : asB d S = .ok b S') : d = .bl b ∧ S' = S := by
  cases d with
  | bl c => cases h; exact ⟨rfl, rfl⟩
  | _ => cases h
theorem vr_bl {K : PySem.W.Frag} {H H' : Hp} {ι : List Addr} {v : V} {f : Bool} {b : Bool} (h : VR K H H' ι v (.bl b, f)) : v = .bl b := by
  cases f with
  | false => cases h; rfl
  | true => obtain ⟨_, _, _, _, _, _, e, _⟩ := h; cases e
theorem fv_bl {K : PySem.W.Frag} {H' : Hp} {ι : List Addr} {v : V} {b : Bool} (h : FV K H' ι v (.bl b)) : v = .bl b := by cases h; rfl
theorem fv_int {K : PySem.W.Frag} {H' : Hp} {ι : List Addr} {v : V} {b : Int} (h : FV K H' ι v (.int b)) : v = .int b := by cases h; rfl
theorem tT_tE {K : PySem.W.Frag} {e : E} {σ : L2.St} {H : Hp} {Q : Bool → Hp → Prop} (h : tT K G call e σ H Q) : tE K G call e σ H fun v H' => ∃ c, v = .bl c ∧ Q c H' := by
  obtain ⟨ρ, S, ι, hE, hS, ho⟩ := h
  obtain ⟨d, S1, e1, k1⟩ := ho.bind
  refine ⟨ρ, S, ι, hE, hS, ?_⟩
  rw [e1]
  intro ι' H' P v hv
  obtain ⟨d, f⟩ := d
  have k1 := k1 ι' H' P
  cases d with
  | bl c => exact ⟨c, vr_bl hv, k1.ret P.st⟩
  | _ => exact k1.elim
theorem c_test {e : E} (h : PE X x (tE X.K G call e)) (he : ∀ whole, isTrue x X.env whole = (do let v ← whole; standAt x.pos; holding [v] (truthy v))) : PT X x (tT X.K G call e) :=
  (pt_val h he).im fun σ H Q q => tT_tE q
theorem c_isN {a : E} {j : Nat} {p : Pos} (ha : PE X x (tD X.K G call a)) : PE X (.Compare x [.Is] [.Constant .none j p] pos) (tE X.K G call (.isN a)) :=
  (pe_cmp (pc_isN ha) rfl).im fun σ H Q ⟨ρ, S, ι, hE, hS, ho⟩ => tD.go hE hS ho fun d S1 ι1 H1 v P1 hv h1 => by
    obtain ⟨d, f⟩ := d
    have h1 := h1.v P1.st
    cases d <;> cases hv <;> exact h1 _ (.bl _)
theorem c_isNT {a : E} {j : Nat} {p : Pos} (ha : PE X x (tD X.K G call a)) : PT X (.Compare x [.Is] [.Constant .none j p] pos) (tT X.K G call (.isN a)) :=
  (pt_cmp (pc_isN ha) rfl).im fun σ H Q q => by
    obtain ⟨ρ, S, ι, hE, hS, ho⟩ := tT_tE q
    refine tD.go hE hS ho fun d S1 ι1 H1 v P1 hv h1 => ?_
    obtain ⟨d, f⟩ := d
    have h1 := h1.v P1.st
    cases d <;> cases hv <;> exact h1 _ (.bl _)
theorem c_isnotN {a : E} {j : Nat} {p : Pos} (ha : PE X x (tD X.K G call a)) : PE X (.Compare x [.IsNot] [.Constant .none j p] pos) (tE X.K G call (.isnotN a)) :=
  (pe_cmp (pc_notN ha) rfl).im fun σ H Q ⟨ρ, S, ι, hE, hS, ho⟩ => tD.go hE hS ho fun d S1 ι1 H1 v P1 hv h1 => by
    obtain ⟨d, f⟩ := d
    have h1 := h1.v P1.st
    cases d <;> cases hv <;> exact h1 _ (.bl _)
theorem c_isnotNT {a : E} {j : Nat} {p : Pos} (ha : PE X x (tD X.K G call a)) : PT X (.Compare x [.IsNot] [.Constant .none j p] pos) (tT X.K G call (.isnotN a)) :=
  (pt_cmp (pc_notN ha) rfl).im fun σ H Q q => by
    obtain ⟨ρ, S, ι, hE, hS, ho⟩ := tT_tE q
    refine tD.go hE hS ho fun d S1 ι1 H1 v P1 hv h1 => ?_
    obtain ⟨d, f⟩ := d
    have h1 := h1.v P1.st
    cases d <;> cases hv <;> exact h1 _ (.bl _)
theorem c_chainR {o p : Cm} {a b c : E} : ∀ σ H Q, tE X.K G call (.chain o p a b c) σ H Q → tChain (rC2 X.K o) (rC2 X.K p) (tP X.K G call a) (tP X.K G call b) (tP X.K G call c) σ H Q :=
  fun σ H Q ⟨ρ, S, ι, hE, hS, ho⟩ =>
    tP.go hE hS ho fun d S1 ι1 H1 v P1 hv h1 => tP.go (hE.up P1) P1.st h1 fun e S2 ι2 H2 w P2 hw h2 => by
      refine ⟨d, e, S2, ι2, P2.upP hv.pv, hw.pv, P2.st, ?_⟩
      obtain ⟨k, S3, e3, k3⟩ := h2.bind
      rw [e3]
      intro ι3 H3 P3
      have k3 := k3 ι3 H3 P3
      refine ⟨k, rfl, ?_⟩
      cases k with
      | false => exact k3.v P3.st _ (.bl false)
      | true =>
        refine tP.go ((hE.up P1).up (P2.trans P3)) P3.st k3 fun g S4 ι4 H4 w' P4 hw' h4 => ?_
        refine ⟨e, g, S4, ι4, (P3.trans P4).upP hw.pv, hw'.pv, P4.st, ?_⟩
        obtain ⟨k', S5, e5, k5⟩ := h4.bind
        rw [e5]
        exact fun ι' H' P' => (k5 ι' H' P').v P'.st _ (.bl _)
theorem c_chain {o p : Cm} {a b c : E} (hu : X.A.units + 64 < cLine) (ha : PE X x (tP X.K G call a)) (hb : PE X y (tP X.K G call b)) (hc : PE X z (tP X.K G call c)) (hm : lastMarks [cmOp o, cmOp p] [y, z] = false) :
    PE X (.Compare x [cmOp o, cmOp p] [y, z] pos) (tE X.K G call (.chain o p a b c)) := (pe_chain (op_cmp hu o) (op_cmp hu p) ha hb hc hm).im c_chainR
theorem c_chainT {o p : Cm} {a b c : E} (hu : X.A.units + 64 < cLine) (ha : PE X x (tP X.K G call a)) (hb : PE X y (tP X.K G call b)) (hc : PE X z (tP X.K G call c)) (hm : lastMarks [cmOp o, cmOp p] [y, z] = false) :
    PT X (.Compare x [cmOp o, cmOp p] [y, z] pos) (tT X.K G call (.chain o p a b c)) :=
  (pt_chain (op_cmp hu o) (op_cmp hu p) ha hb hc hm).im fun σ H Q q => c_chainR σ H _ (tT_tE q)

/-! ### and, or, not, if -/
theorem c_andR {a b : E} {ta : TE} {tb : TE} (ha : ∀ σ H Q, tE X.K G call a σ H Q → ta σ H Q) (hb : ∀ σ H Q, tE X.K G call b σ H Q → tb σ H Q) : ∀ σ H Q, tE X.K G call (.and a b) σ H Q → tAndV ta tb σ H Q :=
  fun σ H Q ⟨ρ, S, ι, hE, hS, ho⟩ => ha _ _ _ (tE.go hE hS ho fun d S1 ι1 H1 v P1 hv h1 => by
    obtain ⟨k, S2, e2, k2⟩ := h1.bind
    obtain ⟨d, f⟩ := d
    obtain ⟨rfl, rfl⟩ := asB_ok e2
    refine ⟨k, vr_bl hv, ?_⟩
    have k2 := k2 _ _ (Post.refl P1.st)
    cases k with
    | true => exact hb _ _ _ ⟨ρ, _, ι1, hE.up P1, P1.st, k2.imp fun r S' ι' H' P' hk v' hv' => hk v' (VR.back P1 hS hv')⟩
    | false => exact k2.v P1.st _ (.bl false))
theorem c_and {a b : E} {r : List Expr} (ha : PE X x (tE X.K G call a)) (hb : PE X (.BoolOp .And (y :: r) pos) (tE X.K G call b)) : PE X (.BoolOp .And (x :: y :: r) pos) (tE X.K G call (.and a b)) :=
  (pe_and ha hb).im (c_andR (fun _ _ _ q => q) fun _ _ _ q => q)
theorem c_orR {a b : E} : ∀ σ H Q, tE X.K G call (.or a b) σ H Q → tOrV (tE X.K G call a) (tE X.K G call b) σ H Q :=
  fun σ H Q ⟨ρ, S, ι, hE, hS, ho⟩ => tE.go hE hS ho fun d S1 ι1 H1 v P1 hv h1 => by
    obtain ⟨k, S2, e2, k2⟩ := h1.bind
    obtain ⟨d, f⟩ := d
    obtain ⟨rfl, rfl⟩ := asB_ok e2
    refine ⟨k, vr_bl hv, ?_⟩
    have k2 := k2 _ _ (Post.refl P1.st)
    cases k with
    | false => exact ⟨ρ, _, ι1, hE.up P1, P1.st, k2.imp fun r S' ι' H' P' hk v' hv' => hk v' (VR.back P1 hS hv')⟩
    | true => exact k2.v P1.st _ (.bl true)
theorem c_or {a b : E} {r : List Expr} (ha : PE X x (tE X.K G call a)) (hb : PE X (.BoolOp .Or (y :: r) pos) (tE X.K G call b)) : PE X (.BoolOp .Or (x :: y :: r) pos) (tE X.K G call (.or a b)) :=
  (pe_or ha hb).im c_orR
theorem asB_bind {α : Type} {m : M (D × Bool)} {f : D × Bool → M α} {S : Store} {g : α → M Bool} : (((m.bind f).bind g) S) = (m.bind fun x => (f x).bind g) S := by
  unfold M.bind
  cases m S <;> rfl
theorem c_andT {a b : E} {r : List Expr} (ha : PT X x (tT X.K G call a)) (hb : PW X (.BoolOp .And (y :: r) pos) (tT X.K G call b)) : PW X (.BoolOp .And (x :: y :: r) pos) (tT X.K G call (.and a b)) :=
  (pw_and ha hb).im fun σ H Q ⟨ρ, S, ι, hE, hS, ho⟩ => by
    have ho : Out X.K ι H (((evalE G call ρ a).bind fun v => (asB v.1).bind fun k => ((if k then evalE G call ρ b else (D.bl false).v).bind fun v => asB v.1)) S) (fun b ι' H' => Q b H') := by
      have e : (((evalE G call ρ a).bind fun v => (asB v.1).bind fun k => ((if k then evalE G call ρ b else (D.bl false).v).bind fun v => asB v.1)) S) = ((evalE G call ρ (.and a b)).bind fun v => asB v.1) S := by
        show _ = ((((evalE G call ρ a).bind fun v => (asB v.1).bind fun k => (if k then evalE G call ρ b else (D.bl false).v)).bind fun v => asB v.1) S)
        unfold M.bind
        cases evalE G call ρ a S with
        | stuck => rfl
        | ok d S1 => dsimp only; cases asB d.1 S1 <;> rfl
      rw [e]; exact ho
    refine tT.go hE hS ho fun k S1 ι1 H1 P1 h1 => ?_
    cases k with
    | true => exact ⟨ρ, S1, ι1, hE.up P1, P1.st, h1⟩
    | false =>
      rw [if_neg Bool.false_ne_true]
      obtain ⟨d, S2, e2, k2⟩ := h1.bind
      cases e2
      exact (k2 _ _ (Post.refl P1.st)).ret P1.st
theorem c_orT {a b : E} {r : List Expr} (ha : PT X x (tT X.K G call a)) (hb : PW X (.BoolOp .Or (y :: r) pos) (tT X.K G call b)) : PW X (.BoolOp .Or (x :: y :: r) pos) (tT X.K G call (.or a b)) :=
  (pw_or ha hb).im fun σ H Q ⟨ρ, S, ι, hE, hS, ho⟩ => by
    have ho : Out X.K ι H (((evalE G call ρ a).bind fun v => (asB v.1).bind fun k => ((if k then (D.bl true).v else evalE G call ρ b).bind fun v => asB v.1)) S) (fun b ι' H' => Q b H') := by
      have e : (((evalE G call ρ a).bind fun v => (asB v.1).bind fun k => ((if k then (D.bl true).v else evalE G call ρ b).bind fun v => asB v.1)) S) = ((evalE G call ρ (.or a b)).bind fun v => asB v.1) S := by
        show _ = ((((evalE G call ρ a).bind fun v => (asB v.1).bind fun k => (if k then (D.bl true).v else evalE G call ρ b)).bind fun v => asB v.1) S)
        unfold M.bind
        cases evalE G call ρ a S with
        | stuck => rfl
        | ok d S1 => dsimp only; cases asB d.1 S1 <;> rfl
      rw [e]; exact ho
    refine tT.go hE hS ho fun k S1 ι1 H1 P1 h1 => ?_
    cases k with
    | false => exact ⟨ρ, S1, ι1, hE.up P1, P1.st, h1⟩
    | true =>
      rw [if_pos rfl]
      obtain ⟨d, S2, e2, k2⟩ := h1.bind
      cases e2
      exact (k2 _ _ (Post.refl P1.st)).ret P1.st
theorem c_not {a : E} (ha : PE X x (tE X.K G call a)) : PE X (.UnaryOp .Not x pos) (tE X.K G call (.not a)) :=
  (pe_not ha).im fun σ H Q ⟨ρ, S, ι, hE, hS, ho⟩ => tE.go hE hS ho fun d S1 ι1 H1 v P1 hv h1 => by
    obtain ⟨k, S2, e2, k2⟩ := h1.bind
    obtain ⟨d, f⟩ := d
    obtain ⟨rfl, rfl⟩ := asB_ok e2
    exact ⟨k, vr_bl hv, (k2 _ _ (Post.refl P1.st)).v P1.st _ (.bl _)⟩
theorem c_notT {a : E} (ha : PT X x (tT X.K G call a)) : PT X (.UnaryOp .Not x pos) (tT X.K G call (.not a)) :=
  (pt_not ha).im fun σ H Q ⟨ρ, S, ι, hE, hS, ho⟩ => by
    have ho : Out X.K ι H (((evalE G call ρ a).bind fun v => (asB v.1).bind fun k => ((D.bl !k).v.bind fun v => asB v.1)) S) (fun b ι' H' => Q b H') := by
      have e : (((evalE G call ρ a).bind fun v => (asB v.1).bind fun k => ((D.bl !k).v.bind fun v => asB v.1)) S) = ((evalE G call ρ (.not a)).bind fun v => asB v.1) S := by
        show _ = ((((evalE G call ρ a).bind fun v => (asB v.1).bind fun k => (D.bl !k).v).bind fun v => asB v.1) S)
        unfold M.bind
        cases evalE G call ρ a S with
        | stuck => rfl
        | ok d S1 => dsimp only; cases asB d.1 S1 <;> rfl
      rw [e]; exact ho
    refine tT.go hE hS ho fun k S1 ι1 H1 P1 h1 => ?_
    obtain ⟨d, S2, e2, k2⟩ := h1.bind
    cases e2
    exact (k2 _ _ (Post.refl P1.st)).ret P1.st
theorem c_ite {t a b : E} (ht : PT X x (tT X.K G call t)) (ha : PE X y (tE X.K G call a)) (hb : PE X z (tE X.K G call b)) : PE X (.IfExp x y z pos) (tE X.K G call (.ite t a b)) :=
  (pe_ifExp ht ha hb).im fun σ H Q ⟨ρ, S, ι, hE, hS, ho⟩ => tT.go hE hS ho fun k S1 ι1 H1 P1 h1 => by
    cases k with
    | true => exact ⟨ρ, S1, ι1, hE.up P1, P1.st, h1.imp fun r S' ι' H' P' hk v' hv' => hk v' (VR.back P1 hS hv')⟩
    | false => exact ⟨ρ, S1, ι1, hE.up P1, P1.st, h1.imp fun r S' ι' H' P' hk v' hv' => hk v' (VR.back P1 hS hv')⟩

/-! ### displays, subscripts -/
theorem c_nil : PA X [] (tEs X.K G call .nil) := pa_nil.im fun σ H Q ⟨ρ, S, ι, hE, hS, ho⟩ => ho.ret hS _ .nil
theorem c_cons {e : E} {es : Es} {xs : List Expr} (ha : PE X x (tD X.K G call e)) (hs : PA X xs (tEs X.K G call es)) (hst : starEach (x :: xs) X.env = (false, eval x X.env) :: starEach xs X.env) : PA X (x :: xs) (tEs X.K G call (.cons e es)) :=
  (pa_cons ha hs hst).im fun σ H Q ⟨ρ, S, ι, hE, hS, ho⟩ => tD.go hE hS ho fun d S1 ι1 H1 v P1 hv h1 => tEs.go (hE.up P1) P1.st h1 fun ds S2 ι2 H2 vs P2 hvs h2 =>
    h2.ret P2.st _ (.cons (P2.upV hv) hvs)
theorem c_tup {es : Es} {xs : List Expr} {j : Nat} (h : PA X xs (tEs X.K G call es)) : PE X (.Tuple xs j pos) (tE X.K G call (.tup es)) :=
  (pe_tup h).im fun σ H Q ⟨ρ, S, ι, hE, hS, ho⟩ => tEs.go hE hS ho fun ds S1 ι1 H1 vs P1 hvs h1 => by
    obtain ⟨g, h1⟩ := h1.guard
    refine ⟨by rw [hvs.length]; exact le_line g, Out.newT (h1.imp fun r S' ι' H' P' hk v' hv' => hk v' (VR.back P1 hS hv')) P1.st hvs⟩
theorem c_lst {es : Es} {xs : List Expr} (h : PA X xs (tEs X.K G call es)) : PE X (.List xs pos) (tE X.K G call (.lst es)) :=
  (pe_lst h).im fun σ H Q ⟨ρ, S, ι, hE, hS, ho⟩ => tEs.go hE hS ho fun ds S1 ι1 H1 vs P1 hvs h1 => by
    obtain ⟨g, h1⟩ := h1.guard
    refine ⟨by rw [hvs.length]; exact le_line g, Out.newL (h1.imp fun r S' ι' H' P' hk v' hv' => hk v' (VR.back P1 hS hv')) P1.st hvs⟩
theorem c_idx {a i : E} (ha : PE X x (tP X.K G call a)) (hi : PE X y (tD X.K G call i)) (hs : PlainIx y) : PE X (.Subscript x y pos) (tE X.K G call (.idx a i)) :=
  (pe_ix ix_any ha hi hs).im fun σ H Q ⟨ρ, S, ι, hE, hS, ho⟩ => tP.go hE hS ho fun d S1 ι1 H1 v P1 hv h1 => tD.go (hE.up P1) P1.st h1 fun e S2 ι2 H2 w P2 hw h2 =>
    ⟨d, e.1, S2, ι2, P2.upP hv.pv, hw, P2.st, h2.imp fun r S' ι' H' P' hk v' hv' => hk v' (VR.back (P1.trans P2) hS hv')⟩
theorem c_onone : PO X none (tO X.K G call .none) := ⟨fun pins s σ H Q I ⟨ρ, S, ι, hE, hS, ho⟩ => po_none.run pins s σ H Q I (ho.ret hS)⟩
theorem c_osome {e : E} (h : PE X x (tD X.K G call e)) : PO X (some x) (tO X.K G call (.some e)) := ⟨fun pins s σ H Q I ⟨ρ, S, ι, hE, hS, ho⟩ => (po_some h).run pins s σ H Q I <|
  tD.go hE hS ho fun d S1 ι1 H1 v P1 hv h1 => by
    obtain ⟨k, S2, e2, k2⟩ := h1.bind
    obtain ⟨d, f⟩ := d
    cases d with
    | int i => cases e2; exact ⟨_, fv_int hv, (k2 _ _ (Post.refl P1.st)).ret P1.st⟩
    | _ => cases e2⟩
theorem c_cut {a : E} {lo hi : Eo} {l h : Option Expr} {p : Pos} (ha : PE X x (tP X.K G call a)) (hl : PO X l (tO X.K G call lo)) (hh : PO X h (tO X.K G call hi)) : PE X (.Subscript x (.Slice l h none p) pos) (tE X.K G call (.cut a lo hi)) :=
  (pe_slice sl_any ha hl hh).im fun σ H Q ⟨ρ, S, ι, hE, hS, ho⟩ => tP.go hE hS ho fun d S1 ι1 H1 v P1 hv h1 => tO.go (hE.up P1) P1.st h1 fun i S2 ι2 H2 P2 h2 =>
    tO.go ((hE.up P1).up P2) P2.st h2 fun j S3 ι3 H3 P3 h3 =>
    ⟨d, S3, ι3, (P2.trans P3).upP hv.pv, P3.st, h3.imp fun r S' ι' H' P' hk v' hv' => hk v' (VR.back (P1.trans (P2.trans P3)) hS hv')⟩

/-! ### built-ins -/
theorem c_b1R {f : B1} {a : E} : ∀ σ H Q, tE X.K G call (.b1 f a) σ H Q → tCB (rB1 X.K f) (tCons (tP X.K G call a) tNil) σ H Q :=
  fun σ H Q ⟨ρ, S, ι, hE, hS, ho⟩ => tP.go hE hS ho fun d S1 ι1 H1 v P1 hv h1 =>
    ⟨v, d, S1, ι1, rfl, hv.pv, P1.st, h1.imp fun r S' ι' H' P' hk v' hv' => hk v' (VR.back P1 hS hv')⟩
def b1Name : B1 → Str
  | .len => "len" | .int => "int" | .list => "list" | .tuple => "tuple" | .all => "all" | .any => "any"
theorem c_b1 {f : B1} {a : E} {n : Str} {p : Pos} (hc : X.calm = true) (hf : f ≠ .tuple) (hn : n = b1Name f) (hg : Gl X n) (hm : X.mg n = none) (ha : PE X x (tP X.K G call a)) (hst : starEach [x] X.env = [(false, eval x X.env)]) :
    PE X (.Call (.Name n p) [x] [] pos) (tE X.K G call (.b1 f a)) := by
  have hA : PA X [x] (tCons (tP X.K G call a) tNil) := pa_cons ha pa_nil hst
  subst hn
  cases f with
  | len => exact (pe_callB cr_len hg hm PySem.boot_len hA (he := hst)).im c_b1R
  | int => exact (pe_callTy cr_int hg hm PyProof.Rows.boot_int hA (he := hst)).im c_b1R
  | list => exact (pe_callTy cr_list hg hm PyProof.Rows.boot_list hA (he := hst)).im c_b1R
  | tuple => exact absurd rfl hf
  | all => exact (pe_callB (cr_allD hc) hg hm PyProof.Rows.boot_all hA (he := hst)).im c_b1R
  | any => exact (pe_callB (cr_anyD hc) hg hm PyProof.Rows.boot_any hA (he := hst)).im c_b1R
end
end Dv

set_option Elab.async false
set_option linter.all false
set_option maxRecDepth 100000
set_option maxHeartbeats 1000000
/-! Dv9: isinstance, join, calls, what is walked, comprehensions. -/
namespace Dv
open PySem PySem.Spec PyProof.Rows L2

section
variable {X : Cx} {x y z : Expr} {pos : Pos} {G : List D} {call : Nat → List D → M (D × Bool)}
theorem bind_ok {α β : Type} {m : M α} {f : α → M β} {S S' : Store} {b : β} (h : M.bind m f S = .ok b S') : ∃ a S1, m S = .ok a S1 ∧ f a S1 = .ok b S' := by
  unfold M.bind at h
  cases e : m S with
  | stuck => rw [e] at h; cases h
  | ok a S1 => rw [e] at h; exact ⟨a, S1, rfl, h⟩
theorem out_ok {K : PySem.W.Frag} {ι : List Addr} {H : Hp} {α : Type} {r : Res α} {k : α → List Addr → Hp → Prop} (h : Out K ι H r k) : ∃ a S', r = .ok a S' := by
  cases r with
  | stuck => exact h.elim
  | ok a S' => exact ⟨a, S', rfl⟩

/-! ### isinstance -/
theorem c_is1 {a : E} {t : Ty} {n m : Str} {p q : Pos} (hn : n = "isinstance") (hg : Gl X n) (hm : X.mg n = none) (hk : m = (tyName t : Str)) (hg2 : Gl X m) (hm2 : X.mg m = none) (ha : PE X x (tP X.K G call a))
    (h1 : starEach [x, .Name m q] X.env = (false, eval x X.env) :: starEach [.Name m q] X.env) : PE X (.Call (.Name n p) [x, .Name m q] [] pos) (tE X.K G call (.isin a [t])) := by
  subst hn hk
  have hT : PE X (.Name (tyName t) q) (tC (tyV t)) := by
    cases t
    · exact pe_bltn hg2 hm2 PyProof.Rows.boot_int rfl
    · exact pe_bltn hg2 hm2 PyProof.Rows.boot_str rfl
    · exact pe_bltn hg2 hm2 PyProof.Rows.boot_bool rfl
    · exact pe_bltn hg2 hm2 PyProof.Rows.boot_list rfl
    · exact pe_bltn hg2 hm2 PyProof.Rows.boot_tuple rfl
  refine (pe_callB (cr_is1 t) hg hm PyProof.Rows.boot_isinstance (pa_cons ha (pa_cons hT pa_nil) h1) (he := h1)).im fun σ H Q ⟨ρ, S, ι, hE, hS, ho⟩ => ?_
  refine tP.go (f := isOut [t]) hE hS ho fun d S1 ι1 H1 v P1 hv h1 => ?_
  exact ⟨v, d, S1, ι1, rfl, hv.pv, P1.st, h1.imp fun r S' ι' H' P' hk v' hv' => hk v' (VR.back P1 hS hv')⟩
/-- the names of classes -/
inductive TyNames (X : Cx) : List Expr → List Ty → Prop
  | nil : TyNames X [] []
  | cons {m : Str} {q : Pos} {t : Ty} {es : List Expr} {ts : List Ty} : m = (tyName t : Str) → Gl X m → X.mg m = none → TyNames X es ts → TyNames X (.Name m q :: es) (t :: ts)
def tTys : List Ty → TA
  | [] => tNil
  | t :: ts => tCons (tC (tyV t)) (tTys ts)
theorem tTys_run {σ : L2.St} {H : Hp} {Q : List V → Hp → Prop} : ∀ {ts : List Ty}, Q (ts.map tyV) H → tTys ts σ H Q
  | [], h => h
  | _ :: ts, h => tTys_run (ts := ts) (Q := fun xs H2 => Q (_ :: xs) H2) h
theorem pa_tys : ∀ {es : List Expr} {ts : List Ty}, TyNames X es ts → PA X es (tTys ts)
  | _, _, .nil => pa_nil
  | _, _, .cons (t := t) e g m r => by
    subst e
    have hT : ∀ q, PE X (.Name (tyName t) q) (tC (tyV t)) := by
      intro q
      cases t
      · exact pe_bltn g m PyProof.Rows.boot_int rfl
      · exact pe_bltn g m PyProof.Rows.boot_str rfl
      · exact pe_bltn g m PyProof.Rows.boot_bool rfl
      · exact pe_bltn g m PyProof.Rows.boot_list rfl
      · exact pe_bltn g m PyProof.Rows.boot_tuple rfl
    exact pa_cons (hT _) (pa_tys r) rfl
theorem PV.new {K : PySem.W.Frag} {H : Hp} {ι : List Addr} {v : V} {d : D} {p : Addr} {o : HO} (h : PV K H ι v d) (hn : H p = none) : PV K (upd H p o) ι v d := by
  rcases h with h | ⟨a, e, ⟨ds, xs, e2, hH, hv⟩, hi⟩
  · exact .inl (h.new hn)
  · exact .inr ⟨a, e, ⟨ds, xs, e2, by rw [upd_ne (ne_of_none hH hn)]; exact hH, hv.new hn⟩, hi⟩
theorem c_isT {a : E} {ts : List Ty} {es : List Expr} {n : Str} {p : Pos} {j : Nat} {q : Pos} (hn : n = "isinstance") (hg : Gl X n) (hm : X.mg n = none) (hk : TyNames X es ts) (hl : ts.length ≤ 64) (ha : PE X x (tP X.K G call a))
    (h1 : starEach [x, .Tuple es j q] X.env = (false, eval x X.env) :: starEach [.Tuple es j q] X.env) : PE X (.Call (.Name n p) [x, .Tuple es j q] [] pos) (tE X.K G call (.isin a ts)) := by
  subst hn
  refine (pe_callB (cr_isT ts) hg hm PyProof.Rows.boot_isinstance (pa_cons ha (pa_cons (pe_tup (pa_tys hk)) pa_nil rfl) h1) (he := h1)).im fun σ H Q ⟨ρ, S, ι, hE, hS, ho⟩ => ?_
  refine tP.go (f := isOut ts) hE hS ho fun d S1 ι1 H1 v P1 hv h1 => ?_
  refine tTys_run ⟨by rw [List.length_map, sizeLine_eq]; omega, fun tp hp => ?_⟩
  have P2 := Post.new P1.st (o := .tup (ts.map tyV)) hp
  refine ⟨v, tp, d, S1, ι1, rfl, upd_same, hv.pv.new hp, P2.st, ?_⟩
  obtain ⟨r, S', e⟩ := out_ok h1
  rw [e] at h1 ⊢
  exact fun ι' H' P' v' hv' => h1 ι' H' (P2.trans P') v' (VR.back P1 hS (VR.back P2 P1.st hv'))

/-! ### join -/
theorem c_join {s a : E} {m : Str} {p : Pos} (hm : m = "join") (hs : PE X x (tD X.K G call s)) (ha : PE X y (tP X.K G call a)) (hst : starEach [y] X.env = [(false, eval y X.env)]) (hb : attributeBase x m X.env (eval x X.env) = eval x X.env)
    (hl : (p.endLine == pos.line) = true) : PE X (.Call (.Attribute x m p) [y] [] pos) (tE X.K G call (.join s a)) := by
  subst hm
  refine (pe_m1 F.slot_str_join F.type_str_join mt_joinD hs ha hst hb hl).im fun σ H Q ⟨ρ, S, ι, hE, hS, ho⟩ => ?_
  refine tD.go hE hS ho fun d S1 ι1 H1 v P1 hv h1 => ⟨?_, ?_⟩
  · obtain ⟨r, S', e⟩ := out_ok h1
    obtain ⟨_, _, _, e⟩ := bind_ok e
    obtain ⟨_, _, _, e⟩ := bind_ok e
    obtain ⟨_, _, e, _⟩ := bind_ok e
    obtain ⟨d, f⟩ := d
    cases d with
    | str t => cases hv; exact ⟨_, rfl⟩
    | _ => cases e
  · refine tP.go (hE.up P1) P1.st h1 fun e S2 ι2 H2 w P2 hw h2 => ?_
    exact ⟨d.1, e, w, S2, ι2, rfl, P2.upV hv, hw.pv, P2.st, h2.imp fun r S' ι' H' P' hk v' hv' => hk v' (VR.back (P1.trans P2) hS hv')⟩

/-! ### calls of the text's own defs -/
def spF (K : PySem.W.Frag) (call : Nat → List D → M (D × Bool)) (i : Nat) : Sp := fun vs H Q _ => ∃ ds S ι, FVs K H ι vs ds ∧ StR K H ι S ∧ Out K ι H (call i ds S) fun x ι' H' => ∀ v, VR K H H' ι' v x → Q v H'
theorem c_call {f : Addr} {fd : FuncData} {ps : List Str} {lv i : Nat} {es : Es} {xs : List Expr} {n : Str} {p : Pos} {sp : Sp} {dV : List Value} {dvs : List V} (F : FnOk X.prog X.w X.K X.mg X.base CX0 lv f fd ps sp) (hr : Room lv X.A) (hg : Gl X n) (hm : X.mg n = some (.ref f))
    (hk : PySem.W.keepIn X.K (.ref f) = true) (hb : Binds X.K fd ps dV) (hdv : Vals dvs dV) (hsp : ∀ vs H Q, spF X.K call i vs H Q E0 → sp (vs ++ dvs) H Q E0) (hnil : xs = [] → es = .nil) (ha : PA X xs (tEs X.K G call es)) (hd : (n == ("__debug__" : Str)) = false) (hst : ∀ e r, xs = e :: r → starEach (e :: r) X.env = (false, eval e X.env) :: starEach r X.env)
    (hpl : ∀ e r, xs = e :: r → (backTo pos (starEach r X.env)).any (·.1) = false) : PE X (.Call (.Name n p) xs [] pos) (tE X.K G call (.call i es)) := by
  have main : ∀ σ H Q, tE X.K G call (.call i es) σ H Q → tCall sp dvs E0 (tEs X.K G call es) σ H Q := fun σ H Q ⟨ρ, S, ι, hE, hS, ho⟩ =>
    tEs.go hE hS ho fun ds S1 ι1 H1 vs P1 hvs h1 => hsp _ _ _ ⟨ds, S1, ι1, hvs, P1.st, h1.imp fun r S' ι' H' P' hk v' hv' => hk v' (VR.back P1 hS hv')⟩
  cases xs with
  | nil =>
    refine (pe_call0 F hr hg hm hk hb hdv pass0 hd).im fun σ H Q q => ?_
    obtain ⟨ρ, S, ι, hE, hS, ho⟩ := q
    have e := hnil rfl
    subst e
    obtain ⟨ds, S1, e1, k1⟩ := ho.bind
    cases e1
    have z := hsp [] H Q ⟨[], S, ι, .nil, hS, (k1 _ _ (Post.refl hS)).imp fun r S' ι' H' P' hk v' hv' => hk v' hv'⟩
    exact z
  | cons e r => exact (pe_call F hr hg hm hk hb hdv pass0 ha hd (hst e r rfl) (hpl e r rfl)).im main
theorem kw_map : ∀ {kws : List Keyword} {ks : List Str}, kws.map (·.arg) = ks.map some → ∀ (env : PySem.Env) (pos : Pos), (backToKw pos (keywordEach kws env)).all (·.1.isSome) = true ∧ (backToKw pos (keywordEach kws env)).filterMap (·.1) = ks ∧ (backToKw pos (keywordEach kws env)).any (·.1.isNone) = false
  | [], [], _, _, _ => ⟨rfl, rfl, rfl⟩
  | [], _ :: _, h, _, _ => nomatch h
  | _ :: _, [], h, _, _ => nomatch h
  | ⟨n, e, p⟩ :: r, k :: ks, h, env, pos => by
    have h1 : n = some k := (List.cons.inj h).1
    subst h1
    obtain ⟨i1, i2, i3⟩ := kw_map (kws := r) (ks := ks) (List.cons.inj h).2 env pos
    exact ⟨i1, congrArg (k :: ·) i2, i3⟩
theorem _root_.L2.PK.im {X : Cx} {kws : List Keyword} {t t' : TA} (h : PK X kws t) (i : ∀ σ H Q, t' σ H Q → t σ H Q) : PK X kws t' := ⟨fun pos pins s σ H Q I q => h.run pos pins s σ H Q I (i _ _ _ q)⟩
theorem c_knil : PK X [] (tEs X.K G call .nil) := pk_nil.im fun σ H Q ⟨ρ, S, ι, hE, hS, ho⟩ => ho ι H (Post.refl hS) [] .nil
theorem c_kcons {e : E} {es : Es} {kws : List Keyword} {nm : Option Str} {kpos : Pos} (ha : PE X x (tD X.K G call e)) (hs : PK X kws (tEs X.K G call es)) : PK X (⟨nm, x, kpos⟩ :: kws) (tEs X.K G call (.cons e es)) :=
  (pk_cons ha hs).im fun σ H Q ⟨ρ, S, ι, hE, hS, ho⟩ => tD.go hE hS ho fun d S1 ι1 H1 v P1 hv h1 => tEs.go (hE.up P1) P1.st h1 fun ds S2 ι2 H2 vs P2 hvs h2 =>
    h2.ret P2.st _ (.cons (P2.upV hv) hvs)
theorem pe_callN0 {f : Addr} {fd : FuncData} {ps ks : List Str} {k n : Nat} {sp : Sp} {x : Str} {p : Pos} {kws : List Keyword} {tk : TA} {g : List Value → List Value → List Value} {gV : List V → List V → List V}
    (F : FnOk X.prog X.w X.K X.mg X.base CX0 k f fd ps sp) (hr : Room k X.A) (hg : Gl X x) (hm : X.mg x = some (.ref f)) (hk : PySem.W.keepIn X.K (.ref f) = true) (hb : KBn X.K fd ps n ks g gV) (hkw : PK X kws tk)
    (hall : (backToKw pos (keywordEach kws X.env)).all (·.1.isSome) = true) (hks : (backToKw pos (keywordEach kws X.env)).filterMap (·.1) = ks) (hdb : (x == ("__debug__" : Str)) = false)
    (hpl : ((backTo pos (starEach [] X.env)).any (·.1) || (backToKw pos (keywordEach kws X.env)).any (·.1.isNone)) = false) :
    PE X (.Call (.Name x p) [] kws pos) (tCallN n ks.length sp gV E0 tNil tk) := by
  refine ⟨fun pins s σ H Q I h => ?_⟩
  refine wpAny_Call_Name_kw (ld_glob I hg hm ?_ hdb)
  refine PySem.W.callWith_KW0 (h₀ := X.base) I.ok.mod.kin hk hall (thn (hkw.run pos pins s σ H _ I h) fun ws s2 ⟨zs, H2, I2, rz, l1, l2, q2⟩ => ⟨I2.kIn, ?_⟩) hpl
  rw [hks]
  exact run_fnN (us := []) (vs := []) F hr hb pass0 I2 .nil rz l1 l2 q2
theorem c_callK {f : Addr} {fd : FuncData} {ps ks : List Str} {lv i n : Nat} {es kes : Es} {xs : List Expr} {kws : List Keyword} {x : Str} {p : Pos} {sp : Sp} {g : List Value → List Value → List Value} {gV : List V → List V → List V}
    (F : FnOk X.prog X.w X.K X.mg X.base CX0 lv f fd ps sp) (hr : Room lv X.A) (hg : Gl X x) (hm : X.mg x = some (.ref f)) (hk : PySem.W.keepIn X.K (.ref f) = true) (hb : KBn X.K fd ps n ks g gV)
    (hsp : ∀ vs zs H Q, vs.length = n → zs.length = ks.length → spF X.K call i (vs ++ zs) H Q E0 → sp (gV vs zs) H Q E0) (hnil : xs = [] → es = .nil) (ha : PA X xs (tEs X.K G call es)) (hkw : PK X kws (tEs X.K G call kes)) (hkn : kws.map (·.arg) = ks.map some)
    (hd : (x == ("__debug__" : Str)) = false) (hst : ∀ e r, xs = e :: r → starEach (e :: r) X.env = (false, eval e X.env) :: starEach r X.env) (hpl : (backTo pos (starEach xs X.env)).any (·.1) = false) :
    PE X (.Call (.Name x p) xs kws pos) (tE X.K G call (.callK i n ks.length es kes)) := by
  obtain ⟨k1, k2, k3⟩ := kw_map hkn X.env pos
  have fin : ∀ {H H1 H2 : Hp} {ι ι1 ι2 : List Addr} {S S1 S2 : Store} {ds es : List D} {vs zs : List V} {Q : VK}, StR X.K H ι S → Post X.K ι H S1 ι1 H1 → Post X.K ι1 H1 S2 ι2 H2 → FVs X.K H1 ι1 vs ds → FVs X.K H2 ι2 zs es → Out X.K ι2 H2 (guard (ds.length = n ∧ es.length = ks.length) (call i (ds ++ es)) S2) (fun x ι' H' => ∀ v, VR X.K H H' ι' v x → Q v H') →
      vs.length = n ∧ zs.length = ks.length ∧ sp (gV vs zs) H2 Q E0 := fun {H H1 H2 ι ι1 ι2 S S1 S2 ds es vs zs Q} hS P1 P2 hvs hzs ho => by
    obtain ⟨⟨g1, g2⟩, h1⟩ := ho.guard
    have l1 := hvs.length.trans g1
    have l2 := hzs.length.trans g2
    exact ⟨l1, l2, hsp _ _ _ _ l1 l2 ⟨ds ++ es, S2, ι2, (P2.upVs hvs).append hzs, P2.st, h1.imp fun r S' ι' H' P' hk v' hv' => hk v' (VR.back (P1.trans P2) hS hv')⟩⟩
  cases xs with
  | nil =>
    refine (pe_callN0 F hr hg hm hk hb hkw k1 k2 hd (by rw [hpl, k3]; rfl)).im fun σ H Q q => ?_
    obtain ⟨ρ, S, ι, hE, hS, ho⟩ := q
    have e := hnil rfl
    subst e
    obtain ⟨ds, S1, e1, h1⟩ := ho.bind
    cases e1
    exact tEs.go hE hS (h1 _ _ (Post.refl hS)) fun es S2 ι2 H2 zs P2 hzs h2 => fin hS (Post.refl hS) P2 .nil hzs h2
  | cons e r =>
    exact (pe_callN F hr hg hm hk hb pass0 ha hkw k1 k2 hd (hst e r rfl) (by rw [hpl, k3]; rfl)).im fun σ H Q ⟨ρ, S, ι, hE, hS, ho⟩ =>
      tEs.go hE hS ho fun ds S1 ι1 H1 vs P1 hvs h1 => tEs.go (hE.up P1) P1.st h1 fun es S2 ι2 H2 zs P2 hzs h2 => fin hS P1 P2 hvs hzs h2

/-! ### what is walked -/
theorem notin_tup {K : PySem.W.Frag} {H : Hp} {ι : List Addr} {S : Store} (s : StR K H ι S) {a : Addr} {o : HO} (h : H a = some o) (hn : ∀ xs, o ≠ .lst xs) : a ∉ ι := fun z => by
  obtain ⟨n, hz⟩ := List.getElem?_of_mem z
  have hl := (List.getElem?_eq_some_iff.mp hz).1
  have hl1 : n < S.length := by rw [← s.len]; exact hl
  obtain ⟨ds, xs, _, hH, _⟩ := s.obj n a _ hz (List.getElem?_eq_getElem hl1)
  rw [h] at hH
  cases hH
  exact hn _ rfl
theorem notown {K : PySem.W.Frag} {H : Hp} {ι : List Addr} {ρ : Env} {σ : L2.St} (E : EnvR K H ι ρ σ) {a : Addr} {o : HO} (h : H a = some o) (hn : ∀ xs, o ≠ .lst xs) : ¬ Own ρ σ a := fun ⟨i, d, h1, h2⟩ => by
  obtain ⟨b, h3, ⟨ds, xs, _, hH, _⟩, _⟩ := E.own i d h1
  rw [h2] at h3
  cases h3
  rw [h] at hH
  cases hH
  exact hn _ rfl
theorem notown0 {K : PySem.W.Frag} {H : Hp} {ι : List Addr} {ρ : Env} {σ : L2.St} (E : EnvR K H ι ρ σ) {a : Addr} (h : H a = none) : ¬ Own ρ σ a := fun ⟨i, d, h1, h2⟩ => by
  obtain ⟨b, h3, ⟨ds, xs, _, hH, _⟩, _⟩ := E.own i d h1
  rw [h2] at h3
  cases h3
  rw [h] at hH
  cases hH
/-- what is watched -/
def Wt (H' : Hp) (ι' : List Addr) (ρ : Env) (σ : L2.St) (no : Prop) (wt : List (Addr × HO)) : Prop := ∀ p ∈ wt, H' p.1 = some p.2 ∧ p.1 ∉ ι' ∧ (no → ¬ Own ρ σ p.1)
theorem Wt.app {H' : Hp} {ι' : List Addr} {ρ : Env} {σ : L2.St} {n m no : Prop} {w w' : List (Addr × HO)} (h : Wt H' ι' ρ σ n w) (h' : Wt H' ι' ρ σ m w') (i : no → n) (j : no → m) : Wt H' ι' ρ σ no (w ++ w') := fun p hp => by
  rcases List.mem_append.mp hp with z | z
  · obtain ⟨a, b, c⟩ := h p z; exact ⟨a, b, fun q => c (i q)⟩
  · obtain ⟨a, b, c⟩ := h' p z; exact ⟨a, b, fun q => c (j q)⟩
section
variable {K : PySem.W.Frag} {H H' : Hp} {ι ι' : List Addr} {S S' : Store} {ρ : Env} {σ : L2.St}
theorem wl_of {own : Bool} {v : V} {ds : List D} (hE : EnvR K H ι ρ σ) (P : Post K ι H S' ι' H') (h : PVx K H H' ι' own v (.lst ds)) : ∃ a xs wt, v = .ref a ∧ WL K a xs wt ∧ FVs K H' ι' xs ds ∧ Wt H' ι' ρ σ (own = false) wt := by
  rcases h with h | ⟨a, rfl, ⟨es, xs, e, hH, hv⟩, hi, hn⟩
  · cases h with
    | @lst a xs _ h1 h2 =>
      rcases h1 with ⟨o, h1⟩ | h1
      · refine ⟨a, xs, [(a, .frz o (.lst xs))], rfl, fun H2 w => .inl (.inr ⟨o, w _ List.mem_cons_self⟩), h2, fun p hp => ?_⟩
        have e : p = (a, HO.frz o (.lst xs)) := by simpa using hp
        subst e
        exact ⟨h1, notin_tup P.st h1 (fun _ z => nomatch z), fun _ => notown (hE.up P) h1 fun _ z => nomatch z⟩
      · exact ⟨a, xs, [], rfl, fun H2 w => .inr h1, h2, fun p hp => by simp at hp⟩
  · cases e
    refine ⟨a, xs, [(a, .lst xs)], rfl, fun H2 w => .inl (.inl (w _ List.mem_cons_self)), hv, fun p hp => ?_⟩
    have e : p = (a, HO.lst xs) := by simpa using hp
    subst e
    exact ⟨hH, hi, fun q => notown0 hE (hn q)⟩
theorem wt_of {own : Bool} {v : V} {ds : List D} (hE : EnvR K H ι ρ σ) (P : Post K ι H S' ι' H') (h : PVx K H H' ι' own v (.tup ds)) : ∃ a xs wt, v = .ref a ∧ WT K a xs wt ∧ FVs K H' ι' xs ds ∧ Wt H' ι' ρ σ (own = false) wt := by
  rcases h with h | ⟨a, rfl, ⟨es, xs, e, hH, hv⟩, hi, hn⟩
  · cases h with
    | @tup a xs _ h1 h2 =>
      rcases h1 with (h1 | ⟨o, h1⟩) | h1
      · refine ⟨a, xs, [(a, .tup xs)], rfl, fun H2 w => .inl (.inl (w _ List.mem_cons_self)), h2, fun p hp => ?_⟩
        have e : p = (a, HO.tup xs) := by simpa using hp
        subst e
        exact ⟨h1, notin_tup P.st h1 (fun _ z => nomatch z), fun _ => notown (hE.up P) h1 fun _ z => nomatch z⟩
      · refine ⟨a, xs, [(a, .frz o (.tup xs))], rfl, fun H2 w => .inl (.inr ⟨o, w _ List.mem_cons_self⟩), h2, fun p hp => ?_⟩
        have e : p = (a, HO.frz o (.tup xs)) := by simpa using hp
        subst e
        exact ⟨h1, notin_tup P.st h1 (fun _ z => nomatch z), fun _ => notown (hE.up P) h1 fun _ z => nomatch z⟩
      · exact ⟨a, xs, [], rfl, fun H2 w => .inr h1, h2, fun p hp => by simp at hp⟩
  · cases e
theorem px_str {own : Bool} {v : V} {s : List Nat} (h : PVx K H H' ι' own v (.str s)) : v = .str ⟨s.toArray⟩ ∧ ∀ c ∈ s, c < 0x110000 := by
  rcases h with h | ⟨a, rfl, ⟨es, xs, e, hH, hv⟩, hi, hn⟩
  · cases h with
    | str _ h => exact ⟨rfl, h⟩
  · cases e
end
theorem i_over {e : E} {tg : Expr} (h : PE X x (tP X.K G call e)) : PI X tg x (tI X.K G call (.over e)) :=
  ((pi_list h).alt ((pi_tup h).alt (pi_str h))).im fun σ H R ⟨ρ, S, ι, hE, hS, ho⟩ => by
    obtain ⟨ds, S', e0⟩ := out_ok ho
    obtain ⟨d, S1, e1, e2⟩ := bind_ok e0
    have no : noOwn ρ (.over e) = true → ownE ρ e = false := fun q => by simpa [noOwn] using q
    cases d with
    | lst es =>
      refine .inl (tP.goE (f := items) hE hS e1 ho fun ι1 H1 v P1 hv h1 => ?_)
      obtain ⟨a, xs, wt, rfl, w1, f1, w2⟩ := wl_of hE P1 hv
      exact ⟨a, rfl, ⟨xs, w1 _ fun p hp => (w2 p hp).1⟩, h1.ret P1.st _ wt _ (walk_list w1) (fun p hp => let ⟨q1, q2, q3⟩ := w2 p hp; ⟨q1, q2, fun q => q3 (no q)⟩) (vis_one f1)⟩
    | tup es =>
      refine .inr (.inl (tP.goE (f := items) hE hS e1 ho fun ι1 H1 v P1 hv h1 => ?_))
      obtain ⟨a, xs, wt, rfl, w1, f1, w2⟩ := wt_of hE P1 hv
      exact ⟨a, rfl, ⟨xs, w1 _ fun p hp => (w2 p hp).1⟩, h1.ret P1.st _ wt _ (walk_tup w1) (fun p hp => let ⟨q1, q2, q3⟩ := w2 p hp; ⟨q1, q2, fun q => q3 (no q)⟩) (vis_one f1)⟩
    | str s =>
      refine .inr (.inr (tP.goE (f := items) hE hS e1 ho fun ι1 H1 v P1 hv h1 => ?_))
      obtain ⟨rfl, hc⟩ := px_str hv
      exact ⟨_, rfl, h1.ret P1.st _ [] _ (walk_str s) (fun p hp => by simp at hp) (vis_str s hc)⟩
    | _ => cases e2
theorem asI_ok {d : D} {i : Int} {S S' : Store} (h : asI d S = .ok i S') : d = .int i ∧ S' = S := by
  cases d with
  | int c => cases h; exact ⟨rfl, rfl⟩
  | _ => cases h
theorem i_range {e : E} {tg : Expr} {n : Str} {p : Pos} (hn : n = "range") (hg : Gl X n) (hm : X.mg n = none) (h : PE X x (tD X.K G call e)) (hst : starEach [x] X.env = [(false, eval x X.env)]) :
    PI X tg (.Call (.Name n p) [x] [] pos) (tI X.K G call (.range e)) := by
  subst hn
  refine (pi_range1 hg hm (pa_cons h pa_nil hst) hst).im fun σ H R ⟨ρ, S, ι, hE, hS, ho⟩ => ?_
  refine tD.go hE hS ho fun d S1 ι1 H1 v P1 hv h1 => ?_
  obtain ⟨j, S2, e2, k2⟩ := h1.bind
  obtain ⟨d, f⟩ := d
  obtain ⟨rfl, rfl⟩ := asI_ok e2
  cases hv
  obtain ⟨g, k3⟩ := (k2 _ _ (Post.refl P1.st)).guard
  refine ⟨j, rfl, g.1, g.2, k3.ret P1.st _ [] _ (walk_range 0 j.toNat) (fun p hp => by simp at hp) ?_⟩
  unfold rangeL
  rw [Int.sub_zero]
  exact vis_range 0 _
theorem i_range2 {a b : E} {tg : Expr} {n : Str} {p : Pos} (hn : n = "range") (hg : Gl X n) (hm : X.mg n = none) (ha : PE X x (tD X.K G call a)) (hb : PE X y (tD X.K G call b)) (hst : starEach [x, y] X.env = [(false, eval x X.env), (false, eval y X.env)]) (hst2 : starEach [y] X.env = [(false, eval y X.env)]) :
    PI X tg (.Call (.Name n p) [x, y] [] pos) (tI X.K G call (.range2 a b)) := by
  subst hn
  refine (pi_range2 hg hm (pa_cons ha (pa_cons hb pa_nil hst2) (by rw [hst, hst2])) hst hst2).im fun σ H R ⟨ρ, S, ι, hE, hS, ho⟩ => ?_
  refine tD.go hE hS ho fun d S1 ι1 H1 v P1 hv h1 => tD.go (hE.up P1) P1.st h1 fun e S2 ι2 H2 w P2 hw h2 => ?_
  obtain ⟨i, S3, e3, k3⟩ := h2.bind
  obtain ⟨d, f⟩ := d
  obtain ⟨rfl, rfl⟩ := asI_ok e3
  cases hv
  obtain ⟨j, S4, e4, k4⟩ := (k3 _ _ (Post.refl P2.st)).bind
  obtain ⟨e, f'⟩ := e
  obtain ⟨rfl, rfl⟩ := asI_ok e4
  cases hw
  obtain ⟨g, k5⟩ := (k4 _ _ (Post.refl P2.st)).guard
  exact ⟨i, j, rfl, ⟨g.1.1, g.1.2, g.2.1, g.2.2⟩, k5.ret P2.st _ [] _ (walk_range i _) (fun p hp => by simp at hp) (vis_range i _)⟩
theorem i_zip {a b : E} {elts : List Expr} {kk : Nat} {tpos : Pos} {n : Str} {p : Pos} (hn : n = "zip") (hg : Gl X n) (hm : X.mg n = none) (ha : PE X x (tP X.K G call a)) (hb : PE X y (tP X.K G call b))
    (hst : starEach [x, y] X.env = (false, eval x X.env) :: starEach [y] X.env) (hst2 : starEach [y] X.env = [(false, eval y X.env)]) :
    PI X (.Tuple elts kk tpos) (.Call (.Name n p) [x, y] [] pos) (tI X.K G call (.zip a b)) := by
  subst hn
  refine (RZ.pi_zipA hg hm (pa_cons ha (pa_cons hb pa_nil hst2) hst) hst (by rw [hst2]; rfl)).im fun σ H R ⟨ρ, S, ι, hE, hS, ho⟩ => ?_
  have no : noOwn ρ (.zip a b) = true → ownE ρ a = false ∧ ownE ρ b = false := fun q => by simpa [noOwn] using q
  obtain ⟨ds, S', e0⟩ := out_ok ho
  obtain ⟨d1, S1, e1, e0⟩ := bind_ok e0
  obtain ⟨d2, S2, e2, e3⟩ := bind_ok e0
  refine tP.goE hE hS e1 ho fun ι1 H1 v P1 hv h1 => tP.goE (f := zipop d1) (hE.up P1) P1.st e2 h1 fun ι2 H2 w P2 hw h2 => ?_
  have hv2 : PVx X.K H H2 ι2 (ownE ρ a) v d1 := by
    rcases hv with hv | ⟨c, e, h3, h4, h5⟩
    · exact .inl (P2.upV hv)
    · exact .inr ⟨c, e, (P2.upM h3 h4).1, (P2.upM h3 h4).2, h5⟩
  have hw2 : PVx X.K H H2 ι2 (ownE ρ b) w d2 := by
    rcases hw with hw | ⟨c, e, h3, h4, h5⟩
    · exact .inl hw
    · exact .inr ⟨c, e, h3, h4, fun q => P1.back hS (h5 q)⟩
  have P := P1.trans P2
  cases d1 with
  | lst es =>
    cases d2 with
    | lst fs =>
      obtain ⟨a1, xs, wt, rfl, w1, f1, w2⟩ := wl_of hE P hv2
      obtain ⟨a2, ys, wt', rfl, w1', f1', w2'⟩ := wl_of hE P hw2
      have W := w2.app w2' (no := noOwn ρ (.zip a b) = true) (fun q => (no q).1) fun q => (no q).2
      have z1 : WL X.K a1 xs (wt ++ wt') := fun H w => w1 H fun p hp => w p (List.mem_append_left _ hp)
      have z2 : WL X.K a2 ys (wt ++ wt') := fun H w => w1' H fun p hp => w p (List.mem_append_right _ hp)
      exact ⟨a1, a2, xs, ys, rfl, .inl ⟨z1 _ fun p hp => (W p hp).1, z2 _ fun p hp => (W p hp).1, h2.ret P2.st _ _ _ (walk_zip z1 z2) W (vis_zip f1 f1')⟩⟩
    | _ => cases e3
  | tup es =>
    cases d2 with
    | tup fs =>
      obtain ⟨a1, xs, wt, rfl, w1, f1, w2⟩ := wt_of hE P hv2
      obtain ⟨a2, ys, wt', rfl, w1', f1', w2'⟩ := wt_of hE P hw2
      have W := w2.app w2' (no := noOwn ρ (.zip a b) = true) (fun q => (no q).1) fun q => (no q).2
      have z1 : WT X.K a1 xs (wt ++ wt') := fun H w => w1 H fun p hp => w p (List.mem_append_left _ hp)
      have z2 : WT X.K a2 ys (wt ++ wt') := fun H w => w1' H fun p hp => w p (List.mem_append_right _ hp)
      exact ⟨a1, a2, xs, ys, rfl, .inr ⟨z1 _ fun p hp => (W p hp).1, z2 _ fun p hp => (W p hp).1, h2.ret P2.st _ _ _ (walk_zipT z1 z2) W (vis_zip f1 f1')⟩⟩
    | _ => cases e3
  | _ => cases e3
theorem i_enum {a : E} {elts : List Expr} {kk : Nat} {tpos : Pos} {n : Str} {p : Pos} (hn : n = "enumerate") (hg : Gl X n) (hm : X.mg n = none) (ha : PE X x (tP X.K G call a)) (hst : starEach [x] X.env = [(false, eval x X.env)]) :
    PI X (.Tuple elts kk tpos) (.Call (.Name n p) [x] [] pos) (tI X.K G call (.enum a)) := by
  subst hn
  refine (pi_enum hg hm (pa_cons ha pa_nil hst) hst).im fun σ H R ⟨ρ, S, ι, hE, hS, ho⟩ => ?_
  have no : noOwn ρ (.enum a) = true → ownE ρ a = false := fun q => by simpa [noOwn] using q
  obtain ⟨ds, S', e0⟩ := out_ok ho
  obtain ⟨d1, S1, e1, e3⟩ := bind_ok e0
  refine tP.goE (f := enumop) hE hS e1 ho fun ι1 H1 v P1 hv h1 => ?_
  cases d1 with
  | lst es =>
    obtain ⟨a1, xs, wt, rfl, w1, f1, w2⟩ := wl_of hE P1 hv
    refine ⟨a1, xs, rfl, w1 _ fun p hp => (w2 p hp).1, h1.ret P1.st _ wt _ (walk_enum w1) (fun p hp => let ⟨q1, q2, q3⟩ := w2 p hp; ⟨q1, q2, fun q => q3 (no q)⟩) ?_⟩
    rw [← f1.length]
    exact vis_enum _ f1
  | _ => cases e3
end
end Dv

set_option Elab.async false
set_option linter.all false
set_option maxRecDepth 100000
set_option maxHeartbeats 1000000
/-! Dv10: comprehensions. -/
namespace Dv
open PySem PySem.Spec PyProof.Rows L2

section
variable {K : PySem.W.Frag} {H H' : Hp} {ι ι' : List Addr} {S S' : Store} {ρ ρ' : Env} {σ : L2.St}
/-- a list that was made behind H is changed -/
theorem chg_up {a : Addr} {xs : List V} {o : HO} (ha : H' a = some (.lst xs)) : (∀ b zs, H' b = some (.tup zs) → upd H' a o b = some (.tup zs)) ∧ (∀ b o' u, H' b = some (.frz o' u) → upd H' a o b = some (.frz o' u)) :=
  ⟨fun b zs e => by rw [upd_ne (by rintro rfl; rw [ha] at e; cases e)]; exact e, fun b o' u e => by rw [upd_ne (by rintro rfl; rw [ha] at e; cases e)]; exact e⟩
theorem chg_st {a : Addr} {xs : List V} {o : HO} (s : StR K H' ι' S') (hi : a ∉ ι') (ha : H' a = some (.lst xs)) : StR K (upd H' a o) ι' S' := by
  refine ⟨s.len, s.nd, fun n b d h1 h2 => ?_⟩
  obtain ⟨es, ys, e, hH, hw⟩ := s.obj n b d h1 h2
  have hb : b ≠ a := fun z => hi (z ▸ List.mem_of_getElem? h1)
  exact ⟨es, ys, e, by rw [upd_ne hb]; exact hH, hw.up (chg_up ha).1 (chg_up ha).2 fun _ _ q => q⟩
theorem Post.chg {a : Addr} {xs : List V} {o : HO} (P : Post K ι H S' ι' H') (hn : H a = none) (hi : a ∉ ι') (ha : H' a = some (.lst xs)) : Post K ι H S' ι' (upd H' a o) := by
  refine ⟨fun b zs e => ?_, fun b o u e => ?_, fun b o e hb => ?_, P.pre, chg_st P.st hi ha⟩
  · exact (chg_up ha).1 _ _ (P.tups b zs e)
  · exact (chg_up ha).2 _ _ _ (P.frzs b o u e)
  · rw [upd_ne (fun z => by rw [z, hn] at e; cases e)]; exact P.keep b o e hb

theorem EnvR.set (E : EnvR K H ι ρ σ) {v : V} {d : D} (h : FV K H ι v d) (i : Nat) : EnvR K H ι (ρ.set i (some (.val d))) (σ.set i (some v)) where
  len := by rw [List.length_set, List.length_set]; exact E.len
  val := fun j e hj => by
    by_cases q : i = j
    · subst q
      by_cases hl : i < ρ.length
      · rw [List.getElem?_set_self hl] at hj
        cases hj
        exact ⟨v, List.getElem?_set_self (by rw [← E.len]; exact hl), h⟩
      · rw [List.getElem?_eq_none (by simpa using hl)] at hj; cases hj
    · rw [List.getElem?_set_ne q] at hj ⊢
      exact E.val j e hj
  own := fun j e hj => by
    by_cases q : i = j
    · subst q
      by_cases hl : i < ρ.length
      · rw [List.getElem?_set_self hl] at hj; cases hj
      · rw [List.getElem?_eq_none (by simpa using hl)] at hj; cases hj
    · rw [List.getElem?_set_ne q] at hj ⊢
      exact E.own j e hj
  dj := fun j k d1 d2 a h1 h2 h3 h4 => by
    have ne : ∀ {j : Nat} {d : D}, (ρ.set i (some (.val d)))[j]? = some (some (.own d)) → True := fun _ => trivial
    have z : ∀ (j : Nat) (e : D), (ρ.set i (some (Sl.val d)))[j]? = some (some (.own e)) → i ≠ j := fun j e hj q => by
      subst q
      by_cases hl : i < ρ.length
      · rw [List.getElem?_set_self hl] at hj; cases hj
      · rw [List.getElem?_eq_none (by simpa using hl)] at hj; cases hj
    have n1 := z j d1 h1
    have n2 := z k d2 h2
    rw [List.getElem?_set_ne n1] at h1 h3
    rw [List.getElem?_set_ne n2] at h2 h4
    exact E.dj j k d1 d2 a h1 h2 h3 h4
theorem EnvR.none (E : EnvR K H ι ρ σ) (i : Nat) : EnvR K H ι (ρ.set i Option.none) (σ.set i Option.none) where
  len := by rw [List.length_set, List.length_set]; exact E.len
  val := fun j e hj => by
    have q : i ≠ j := fun q => by
      subst q
      by_cases hl : i < ρ.length
      · rw [List.getElem?_set_self hl] at hj; cases hj
      · rw [List.getElem?_eq_none (by simpa using hl)] at hj; cases hj
    rw [List.getElem?_set_ne q] at hj ⊢
    exact E.val j e hj
  own := fun j e hj => by
    have q : i ≠ j := fun q => by
      subst q
      by_cases hl : i < ρ.length
      · rw [List.getElem?_set_self hl] at hj; cases hj
      · rw [List.getElem?_eq_none (by simpa using hl)] at hj; cases hj
    rw [List.getElem?_set_ne q] at hj ⊢
    exact E.own j e hj
  dj := fun j k d1 d2 a h1 h2 h3 h4 => by
    have z : ∀ (j : Nat) (e : D), (ρ.set i Option.none)[j]? = some (some (.own e)) → i ≠ j := fun j e hj q => by
      subst q
      by_cases hl : i < ρ.length
      · rw [List.getElem?_set_self hl] at hj; cases hj
      · rw [List.getElem?_eq_none (by simpa using hl)] at hj; cases hj
    have n1 := z j d1 h1
    have n2 := z k d2 h2
    rw [List.getElem?_set_ne n1] at h1 h3
    rw [List.getElem?_set_ne n2] at h2 h4
    exact E.dj j k d1 d2 a h1 h2 h3 h4
theorem EnvR.wipe (E : EnvR K H ι ρ σ) : ∀ vs : List Nat, EnvR K H ι (Dv.wipe ρ vs) (L2.wipe σ vs)
  | [] => E
  | v :: vs => (EnvR.wipe E vs).none v
/-- the targets -/
def gOf (K : PySem.W.Frag) : List Nat → TG
  | [i] => gName i
  | [i, j] => gTup K 2 (gCons (gName i) (gCons (gName j) gNil))
  | _ => fun _ _ _ _ => False
theorem gOf_ok {tg : List Nat} {d : D} {x : V} {Q : L2.St → Hp → Prop} (hp : put ρ tg d = some ρ') (E : EnvR K H ι ρ σ) (h : FV K H ι x d)
    (q : ∀ σ', EnvR K H ι ρ' σ' → (∀ j, j ∉ tg → σ'[j]? = σ[j]?) → σ'.length = σ.length → Q σ' H) : gOf K tg x σ H Q := by
  match tg, hp with
  | [i], hp =>
    cases hp
    exact q _ (E.set h i) (fun j hj => by rw [List.getElem?_set_ne (by intro z; exact hj (by simp [z]))]) (List.length_set ..)
  | [i, j], hp =>
    match d, hp, h with
    | .tup [a, b], hp, h =>
      cases hp
      cases h with
      | tup h1 h2 =>
        cases h2 with
        | cons f1 h2 =>
          cases h2 with
          | cons f2 h2 =>
            cases h2
            refine ⟨_, _, rfl, h1, rfl, _, _, rfl, _, _, rfl, rfl, ?_⟩
            refine q _ ((E.set f1 i).set f2 j) (fun l hl => ?_) (by rw [List.length_set, List.length_set])
            rw [List.getElem?_set_ne (by intro z; exact hl (by simp [z])), List.getElem?_set_ne (by intro z; exact hl (by simp [z]))]
theorem wipe_in : ∀ {vs : List Nat} {σ : L2.St} {j : Nat}, j ∈ vs → (L2.wipe σ vs)[j]? = (σ[j]?).map fun _ => Option.none
  | v :: vs, σ, j, h => by
    unfold L2.wipe
    by_cases e : v = j
    · subst e
      by_cases hl : v < σ.length
      · rw [List.getElem?_set_self (by rw [L2.wipe_length]; exact hl), List.getElem?_eq_getElem hl]; rfl
      · rw [List.getElem?_eq_none (by simpa [L2.wipe_length] using hl), List.getElem?_eq_none (by simpa using hl)]; rfl
    · rw [List.getElem?_set_ne e]
      rcases List.mem_cons.mp h with z | z
      · exact absurd z.symm e
      · exact wipe_in z
theorem wipe_same {vs : List Nat} {σ σ2 : L2.St} (h : ∀ j, j ∉ vs → σ2[j]? = (L2.wipe σ vs)[j]?) (hl : σ2.length = (L2.wipe σ vs).length) : L2.wipe σ2 vs = L2.wipe σ vs := by
  apply List.ext_getElem?
  intro j
  by_cases hj : j ∈ vs
  · rw [wipe_in hj, wipe_in hj]
    rw [L2.wipe_length] at hl
    by_cases q : j < σ.length
    · rw [List.getElem?_eq_getElem q, List.getElem?_eq_getElem (by omega)]; rfl
    · rw [List.getElem?_eq_none (by omega), List.getElem?_eq_none (by omega)]
  · rw [L2.wipe_out hj, h j hj]
end

section
variable {X : Cx} {G : List D} {call : Nat → List D → M (D × Bool)}
def YldOk : VI → V → Hp → Hp → Prop
  | .one v, x, H, H' => x = v ∧ H' = H
  | .two v w, x, H, H' => ∃ T, x = .ref T ∧ H T = none ∧ H' = upd H T (.tup [v, w])
theorem item_ok {K : PySem.W.Frag} {ι : List Addr} {S : Store} {H H' : Hp} {x : V} {u : VI} {d : D} (s : StR K H ι S) (h : VIR K H ι u d)
    (y : YldOk u x H H') : FV K H' ι x d ∧ Post K ι H S ι H' := by
  cases u with
  | one v => obtain ⟨rfl, rfl⟩ := y; exact ⟨h, Post.refl s⟩
  | two v w =>
    obtain ⟨T, rfl, hT, rfl⟩ := y
    obtain ⟨a, b, rfl, h1, h2⟩ := h
    exact ⟨.tup (.inl (.inl upd_same)) (.cons (h1.new hT) (.cons (h2.new hT) .nil)), Post.new s hT⟩
theorem c_conds {cond : Eo} {ifs : List Expr} (h : (cond = .none ∧ ifs = []) ∨ ∃ e x, cond = .some e ∧ ifs = [x] ∧ PT X x (tT X.K G call e)) : PTs X ifs (tB X.K G call cond) := by
  rcases h with ⟨rfl, rfl⟩ | ⟨e, x, rfl, rfl, h⟩
  · exact ⟨fun pins s σ H Q I ⟨ρ, S, ι, hE, hS, ho⟩ => pts_nil.run pins s σ H Q I (ho.ret hS)⟩
  · exact ⟨fun pins s σ H Q I ⟨ρ, S, ι, hE, hS, ho⟩ => (pts_one h).run pins s σ H Q I ⟨ρ, S, ι, hE, hS, ho⟩⟩
/-- one turn of a comprehension -/
abbrev turnF (G : List D) (call : Nat → List D → M (D × Bool)) (ρ : Env) (own tg : List Nat) (elt : E) (cond : Eo) (x : D) : M (Option D) :=
  (M.opt (put (Dv.wipe ρ own) tg x)).bind fun ρ' => (evalB G call ρ' cond).bind fun k => if k then (evalE G call ρ' elt).bind fun y => M.ret (some y.1) else M.ret none
theorem c_compR {own tg : List Nat} {elt : E} {src : It} {cond : Eo} (hsub : ∀ j ∈ tg, j ∈ own) : ∀ σ H Q, tE X.K G call (.comp own elt tg src cond) σ H Q →
    tLc (tI X.K G call src) (gOf X.K tg) (tB X.K G call cond) (tD X.K G call elt) own σ H Q := by
  intro σ H Q ⟨ρ, S, ι, hE, hS, ho⟩
  obtain ⟨ds, S1, e1, k1⟩ := ho.bind
  refine ⟨ρ, S, ι, hE, hS, ?_⟩
  rw [e1]
  intro ι1 H1 P1 J wt vi wk hw hv D hD
  obtain ⟨gl, h2⟩ := (k1 ι1 H1 P1).guard
  obtain ⟨Y, Sf, e2, k2⟩ := h2.bind
  have lenV := hv.length
  have watch : ∀ {S' : Store} {ι' : List Addr} {Hc : Hp}, Post X.K ι1 H1 S' ι' Hc → ∀ p ∈ wt, Hc p.1 = some p.2 := fun P p hp => P.keep _ _ (hw p hp).1 (hw p hp).2.1
  refine ⟨fun i m Hc => m = ds.length - i ∧ i ≤ ds.length ∧ ∃ S' ι' acc ea ys, Hc D = some (.lst acc) ∧ D ∉ ι' ∧ FVs X.K Hc ι' acc ea ∧ Post X.K ι1 H1 S' ι' Hc ∧
    mapF (turnF G call ρ own tg elt cond) (ds.drop i) S' = .ok ys Sf ∧ Y = ea ++ ys ∧ ea.length ≤ i,
    ⟨ds.length, by simp, Nat.zero_le _, S1, ι1, [], [], Y, upd_same, notin P1.st hD, .nil, Post.new P1.st hD, by simpa using e2, by simp, Nat.le_refl _⟩, ?_⟩
  rintro i m Hc ⟨rfl, hi, S', ι', acc, ea, ys, hacc, hDi, hf, P, em, rfl, hle⟩
  by_cases hlt : i < ds.length
  · -- one more turn
    right
    refine ⟨wk.go i Hc (watch P) (by rw [lenV]; exact hlt), fun H' => ds.length - (i + 1) = ds.length - (i + 1) ∧ i + 1 ≤ ds.length ∧ ∃ S' ι' acc ea' ys', H' D = some (.lst acc) ∧ D ∉ ι' ∧ FVs X.K H' ι' acc ea' ∧ Post X.K ι1 H1 S' ι' H' ∧
      mapF (turnF G call ρ own tg elt cond) (ds.drop (i + 1)) S' = .ok ys' Sf ∧ ea ++ ys = ea' ++ ys' ∧ ea'.length ≤ i + 1, fun H' h => ⟨_, by omega, h⟩, fun x H' y => ?_⟩
    obtain ⟨d, hd⟩ := get_lt hlt
    obtain ⟨u, hu, hr⟩ := hv.get hd
    obtain ⟨fx, Pn⟩ := item_ok P.st (hr.up P) (show YldOk u x Hc H' from by have z := wk.yld i Hc x H' u (watch P) hu y; cases u <;> exact z)
    have P2 := P.trans Pn
    rw [List.drop_eq_getElem_cons hlt] at em
    have hdi : ds[i] = d := Option.some.inj ((List.getElem?_eq_getElem hlt).symm.trans hd)
    rw [hdi] at em
    obtain ⟨o, S2, f1, em1⟩ := bind_ok em
    obtain ⟨ys', S3, f2, em2⟩ := bind_ok em1
    cases em2
    obtain ⟨ρ', S4, f3, f6⟩ := bind_ok f1
    have q3 := opt_ok f3
    have g3 := q3.1
    have q4 := q3.2
    subst q4
    obtain ⟨k, S5, f4, f7⟩ := bind_ok f6
    refine gOf_ok g3 ((((hE.up P1).up P).wipe own).up Pn) fx fun σ2 E2 hsame hlen => ⟨wipe_same (fun j hj => hsame j fun z => hj (hsub j z)) hlen, ?_⟩
    refine ⟨ρ', _, ι', E2, Pn.st, ?_⟩
    rw [f4]
    intro ι3 H3 P3
    cases k with
    | true =>
      obtain ⟨y1, S6, f5, f8⟩ := bind_ok f7
      cases f8
      refine ⟨ρ', _, ι3, E2.up P3, P3.st, ?_⟩
      rw [f5]
      intro ι4 H4 P4 v hv4
      have PX := (Pn.trans P3).trans P4
      have h4 := PX.keep _ _ hacc hDi
      have hi4 := PX.out hacc hDi
      refine ⟨acc, h4, ?_, rfl, hlt, _, ι4, _, ea ++ [y1.1], ys', upd_same, hi4, ?_, ((P2.trans P3).trans P4).chg hD hi4 h4, f2, by simp, by rw [List.length_append]; simpa using hle⟩
      · rw [hf.length]; exact lt_line (by omega)
      · exact ((PX.upVs hf).append (.cons hv4 .nil)).up (chg_up h4).1 (chg_up h4).2 fun _ _ q => q
    | false =>
      cases f7
      have PX := Pn.trans P3
      exact ⟨rfl, hlt, _, ι3, acc, ea, ys', PX.keep _ _ hacc hDi, PX.out hacc hDi, PX.upVs hf, P2.trans P3, f2, rfl, by omega⟩
  · -- the end
    left
    have e : i = ds.length := by omega
    subst e
    rw [List.drop_length] at em
    cases em
    refine ⟨wk.stop _ Hc (watch P) (by rw [lenV]; exact Nat.le_refl _), ?_⟩
    have fin := (k2 ι' Hc P) ι' Hc (Post.refl P.st)
    exact fin _ ⟨D, rfl, P1.back hS hD, hDi, ea ++ [], acc, rfl, hacc, by simpa using hf⟩
theorem c_comp {own tg : List Nat} {elt : E} {src : It} {cond : Eo} {ownp : List (Str × Nat)} {x tgE it : Expr} {ifs : List Expr} {scope : Scope} {pos : Pos} (hc : X.calm = true) (hN : X.N.Nodup) (hi : PI X tgE it (tI X.K G call src)) (ok : BlkOk X.N X.env.scope scope ownp)
    (ho : ownp.map (·.2) = own) (hsub : ∀ j ∈ tg, j ∈ own) (hg : ∀ (s : Shared) (H : Hp) (C : Addr) (cl : List (Str × Addr)) (fp : List Addr), PG (X.blk s H scope (compEnvC scope cl C X.env) fp) tgE (gOf X.K tg))
    (ht : ∀ (s : Shared) (H : Hp) (C : Addr) (cl : List (Str × Addr)) (fp : List Addr), PTs (X.blk s H scope (compEnvC scope cl C X.env) fp) ifs (tB X.K G call cond))
    (he : ∀ (s : Shared) (H : Hp) (C : Addr) (cl : List (Str × Addr)) (fp : List Addr), PE (X.blk s H scope (compEnvC scope cl C X.env) fp) x (tD X.K G call elt)) (hs : ∀ y, foldedSetIterable it X.env y = pure y) :
    PE X (.ListComp x [⟨tgE, it, ifs, 0⟩] scope pos) (tE X.K G call (.comp own elt tg src cond)) := by
  subst ho
  exact (pe_lc hc hN hi ok hg ht he hs).im (c_compR hsub)
end
end Dv

set_option Elab.async false
set_option linter.all false
set_option maxRecDepth 100000
set_option maxHeartbeats 1000000
/-! Dv11: the written text against the small language, and what it says. -/
namespace Dv
open PySem PySem.Spec PyProof.Rows L2

/-- a form of a call: the def's name, how many values by position, the names of the others -/
structure Shp where
  x : Str
  n : Nat
  ks : List Str
structure Cst where
  N : List Str
  sc : Scope
  fnb : Str → Bool
  shp : List Shp
  gls : List Str
  frees : List Str
def visB (sc : Scope) (x : Str) : Bool := match sc.names.lookup x with
  | some .local => true
  | some .cell => true
  | some .free => true
  | _ => false
def Cst.var (C : Cst) (i : Nat) (x : Str) : Bool := decide (C.N[i]? = some x) && (visB C.sc x && (!(x == ("__debug__" : Str)) && !(x == ("__classdict__" : Str))))
def Cst.isGl (C : Cst) (x : Str) : Bool := decide (C.sc.names.lookup x = some .globalImplicit) && !(x == ("__debug__" : Str))
def Cst.bi (C : Cst) (x n : Str) : Bool := decide (x = n) && (C.isGl x && decide (x ∈ C.frees))
def Cst.loc (C : Cst) (i : Nat) (x : Str) : Bool := decide (C.N[i]? = some x) && (match C.sc.names.lookup x with
  | some .local => true
  | some .cell => C.fnb x
  | _ => false)
def Cst.blk (C : Cst) (scope : Scope) : Cst := { C with sc := relS scope C.sc, fnb := fun x => scope.names.lookup x == some .cell }
def isStar : Expr → Bool
  | .Starred .. => true
  | _ => false
def isSlice : Expr → Bool
  | .Slice .. => true
  | _ => false
def isSet : Expr → Bool
  | .Set .. => true
  | _ => false
def isCall : Expr → Bool
  | .Call .. => true
  | _ => false
def isTup : Expr → Bool
  | .Tuple .. => true
  | _ => false
/-- whose truth is asked of the value -/
def plainT : Expr → Bool
  | .UnaryOp .Not _ _ => false
  | .BoolOp .. => false
  | .IfExp .. => false
  | .Compare .. => false
  | _ => true
def ownP (C : Cst) (own : List Nat) : List (Str × Nat) := own.filterMap fun i => (C.N[i]?).map fun x => (x, i)
def trTg (C : Cst) : List Nat → Expr → Bool
  | [i], .Name x _ => C.loc i x
  | [i, j], .Tuple [.Name x _, .Name y _] _ _ => C.loc i x && C.loc j y
  | _, _ => false
def trTys (C : Cst) : List Ty → List Expr → Bool
  | [], [] => true
  | t :: ts, .Name m _ :: es => C.bi m (tyName t) && trTys C ts es
  | _, _ => false
def trCond (f : E → Expr → Bool) : Eo → List Expr → Bool
  | .none, [] => true
  | .some e, [x] => f e x
  | _, _ => false
def okShp (o : Option Shp) (x : Str) (n : Nat) (ks : List (Option Str)) : Bool := match o with
  | some s => decide (s.x = x) && (decide (s.ks.map some = ks) && (s.ks.isEmpty || decide (s.n = n)))
  | none => false
theorem okShp_ok {o : Option Shp} {x : Str} {n : Nat} {ks : List (Option Str)} (h : okShp o x n ks = true) : ∃ s, o = some s ∧ s.x = x ∧ s.ks.map some = ks ∧ (s.ks = [] ∨ s.n = n) := by
  unfold okShp at h
  cases o with
  | none => cases h
  | some s =>
    obtain ⟨h1, h2⟩ := Bool.and_eq_true_iff.mp h
    obtain ⟨h2, h3⟩ := Bool.and_eq_true_iff.mp h2
    refine ⟨s, rfl, of_decide_eq_true h1, of_decide_eq_true h2, ?_⟩
    rcases Bool.or_eq_true_iff.mp h3 with z | z
    · exact .inl (List.isEmpty_iff.mp z)
    · exact .inr (of_decide_eq_true z)
mutual
def trE (C : Cst) : E → Expr → Bool
  | .var i, .Name x _ => C.var i x
  | .non, .Constant .none _ _ => true
  | .bl b, .Constant (.bool c) _ _ => b == c
  | .int i, .Constant (.int j) _ _ => decide (i = j)
  | .str s, .Constant (.str x) _ _ => decide (x = ⟨s.toArray⟩) && s.all fun c => decide (c < 0x110000)
  | .glob g, .Name x _ => decide (C.gls[g]? = some x) && C.isGl x
  | .bin o a b, .BinOp x op y _ => decide (biOp o = op) && (trE C a x && trE C b y)
  | .neg a, .UnaryOp .USub x _ => trE C a x
  | .cmp o a b, .Compare x [op] [y] _ => decide (cmOp o = op) && (!behindInMarks op y && (trE C a x && trE C b y))
  | .isN a, .Compare x [.Is] [.Constant .none _ _] _ => trE C a x
  | .isnotN a, .Compare x [.IsNot] [.Constant .none _ _] _ => trE C a x
  | .chain o p a b c, .Compare x [op, oq] [y, z] _ => decide (cmOp o = op) && (decide (cmOp p = oq) && (!lastMarks [op, oq] [y, z] && (trE C a x && (trE C b y && trE C c z))))
  | .and a b, .BoolOp .And (x :: y :: r) p => trE C a x && (match r with
    | [] => trE C b y
    | z :: r' => trE C b (.BoolOp .And (y :: z :: r') p))
  | .or a b, .BoolOp .Or (x :: y :: r) p => trE C a x && (match r with
    | [] => trE C b y
    | z :: r' => trE C b (.BoolOp .Or (y :: z :: r') p))
  | .not a, .UnaryOp .Not x _ => trE C a x
  | .ite t a b, .IfExp x y z _ => trE C t x && (trE C a y && trE C b z)
  | .tup es, .Tuple xs _ _ => trEs C es xs
  | .lst es, .List xs _ => trEs C es xs
  | .idx a i, .Subscript x y _ => !isSlice y && (trE C a x && trE C i y)
  | .cut a lo hi, .Subscript x (.Slice l h none _) _ => trE C a x && (trEo C lo l && trEo C hi h)
  | .b1 f a, .Call (.Name n _) [x] [] _ => C.bi n (b1Name f) && ((match f with | .tuple => false | _ => true) && (!isStar x && trE C a x))
  | .isin a [t], .Call (.Name n _) [x, .Name m _] [] _ => C.bi n "isinstance" && (C.bi m (tyName t) && (!isStar x && trE C a x))
  | .isin a ts, .Call (.Name n _) [x, .Tuple es _ _] [] _ => C.bi n "isinstance" && (trTys C ts es && (decide (ts.length ≤ 64) && (!isStar x && trE C a x)))
  | .join s a, .Call (.Attribute x m p) [y] [] pos => decide (m = "join") && ((p.endLine == pos.line) && (!isCall x && (!isStar y && (trE C s x && trE C a y))))
  | .call f es, .Call (.Name n _) xs [] _ => okShp (C.shp[f]?) n 0 [] && (C.isGl n && trEs C es xs)
  | .callK f i j es ks, .Call (.Name n _) xs kws _ => decide (j = kws.length) && (!(kws.isEmpty) && (okShp (C.shp[f]?) n i (kws.map (·.arg)) && (C.isGl n && (trEs C es xs && trEs C ks (kws.map (·.value))))))
  | .comp own elt tg src cond, .ListComp x [⟨t, it, ifs, k⟩] scope _ => decide (k = 0) && (blkC C.N C.sc scope (ownP C own) && (decide ((ownP C own).map (·.2) = own) && (trTg (C.blk scope) tg t && (tg.all (fun j => own.contains j) &&
      (trIt C (isTup t) src it && (trCo (C.blk scope) cond ifs && (!isSet it && trE (C.blk scope) elt x)))))))
  | _, _ => false
def trEs (C : Cst) : Es → List Expr → Bool
  | .nil, [] => true
  | .cons e es, x :: xs => !isStar x && (trE C e x && trEs C es xs)
  | _, _ => false
def trEo (C : Cst) : Eo → Option Expr → Bool
  | .none, none => true
  | .some e, some x => trE C e x
  | _, _ => false
def trCo (C : Cst) : Eo → List Expr → Bool
  | .none, [] => true
  | .some e, [x] => trE C e x
  | _, _ => false
/-- tup: the target is a tuple -/
def trIt (C : Cst) (tup : Bool) : It → Expr → Bool
  | .over e, x => trE C e x
  | .range e, .Call (.Name n _) [x] [] _ => C.bi n "range" && (!isStar x && trE C e x)
  | .range2 a b, .Call (.Name n _) [x, y] [] _ => C.bi n "range" && (!isStar x && (!isStar y && (trE C a x && trE C b y)))
  | .zip a b, .Call (.Name n _) [x, y] [] _ => tup && (C.bi n "zip" && (!isStar x && (!isStar y && (trE C a x && trE C b y))))
  | .enum a, .Call (.Name n _) [x] [] _ => tup && (C.bi n "enumerate" && (!isStar x && trE C a x))
  | _, _ => false
end

section
variable (G : List D) (call : Nat → List D → M (D × Bool))
structure Good (lv : Nat) (X : Cx) (C : Cst) : Prop where
  n : X.N = C.N
  nd : C.N.Nodup
  sc : X.env.scope = C.sc
  calm : X.calm = true
  kl : KL X.K
  fn : ∀ x, C.fnb x = true → X.fn x = true
  room : Room lv X.A
  free : ∀ x ∈ C.frees, X.mg x = none
  calls : ∀ (i : Nat) (s : Shp), C.shp[i]? = some s → ∃ f fd ps sp, FnOk X.prog X.w X.K X.mg X.base CX0 lv f fd ps sp ∧ X.mg s.x = some (.ref f) ∧ PySem.W.keepIn X.K (.ref f) = true ∧
    (s.ks = [] → ∃ dV dvs, Binds X.K fd ps dV ∧ Vals dvs dV ∧ ∀ vs H Q, spF X.K call i vs H Q E0 → sp (vs ++ dvs) H Q E0) ∧
    (s.ks ≠ [] → ∃ g gV, KBn X.K fd ps s.n s.ks g gV ∧ ∀ vs zs H Q, vs.length = s.n → zs.length = s.ks.length → spF X.K call i (vs ++ zs) H Q E0 → sp (gV vs zs) H Q E0)
  glob : ∀ (i : Nat) (x : Str), C.gls[i]? = some x → ∃ u v d, X.mg x = some u ∧ RelV v u ∧ G[i]? = some d ∧ ∀ H ι, FV X.K H ι v d
end
section
variable {G : List D} {call : Nat → List D → M (D × Bool)} {lv : Nat} {X : Cx} {C : Cst}
theorem Good.hu (g : Good G call lv X C) : X.A.units + 64 < cLine := g.room.units
theorem and_t {a b : Bool} (h : (a && b) = true) : a = true ∧ b = true := Bool.and_eq_true_iff.mp h
theorem not_t {a : Bool} (h : (!a) = true) : a = false := by cases a <;> first | rfl | cases h
theorem Good.visV (g : Good G call lv X C) {x : Str} (h : visB C.sc x = true) : Vis X.env.scope x := by
  unfold visB at h
  unfold Vis
  rw [g.sc]
  cases q : List.lookup x C.sc.names with
  | none => rw [q] at h; cases h
  | some k =>
    rw [q] at h
    cases k <;> first | exact .inl rfl | exact .inr (.inl rfl) | exact .inr (.inr rfl) | cases h
theorem Good.var (g : Good G call lv X C) {i : Nat} {x : Str} (h : C.var i x = true) : X.N[i]? = some x ∧ Vis X.env.scope x ∧ (x == ("__debug__" : Str)) = false ∧ (x == ("__classdict__" : Str)) = false := by
  obtain ⟨h1, h2⟩ := and_t h
  obtain ⟨h2, h3⟩ := and_t h2
  obtain ⟨h3, h4⟩ := and_t h3
  exact ⟨by rw [g.n]; exact of_decide_eq_true h1, g.visV h2, not_t h3, not_t h4⟩
theorem Good.isGl (g : Good G call lv X C) {x : Str} (h : C.isGl x = true) : Gl X x ∧ (x == ("__debug__" : Str)) = false := by
  obtain ⟨h1, h2⟩ := and_t h
  refine ⟨?_, not_t h2⟩
  show X.env.scope.names.lookup x = _
  rw [g.sc]
  exact of_decide_eq_true h1
theorem Good.bi (g : Good G call lv X C) {x n : Str} (h : C.bi x n = true) : x = n ∧ Gl X x ∧ X.mg x = none := by
  obtain ⟨h1, h2⟩ := and_t h
  obtain ⟨h2, h3⟩ := and_t h2
  exact ⟨of_decide_eq_true h1, (g.isGl h2).1, g.free x (of_decide_eq_true h3)⟩
theorem Good.loc (g : Good G call lv X C) {i : Nat} {x : Str} (h : C.loc i x = true) : X.N[i]? = some x ∧ L2.Loc X.env.scope x ∧ (X.fn x = true ∨ X.env.scope.names.lookup x = some .local) := by
  obtain ⟨h1, h2⟩ := and_t h
  refine ⟨by rw [g.n]; exact of_decide_eq_true h1, ?_⟩
  unfold L2.Loc
  rw [g.sc]
  cases q : List.lookup x C.sc.names with
  | none => rw [q] at h2; cases h2
  | some k =>
    rw [q] at h2
    cases k <;> first | exact ⟨.inl rfl, .inr rfl⟩ | exact ⟨.inr rfl, .inl (g.fn x h2)⟩ | cases h2
theorem star1 {x : Expr} {xs : List Expr} {env : PySem.Env} (h : isStar x = false) : starEach (x :: xs) env = (false, eval x env) :: starEach xs env := by
  cases x <;> first | rfl | cases h
theorem star_plain (C : Cst) : ∀ (es : Es) (xs : List Expr) (env : PySem.Env) (pos : Pos), trEs C es xs = true → (backTo pos (starEach xs env)).any (·.1) = false
  | .nil, [], _, _, _ => rfl
  | .nil, _ :: _, _, _, h => nomatch h
  | .cons _ _, [], _, _, h => nomatch h
  | .cons e es, x :: xs, env, pos, h => by
    obtain ⟨h1, h2⟩ := and_t h
    obtain ⟨h2, h3⟩ := and_t h2
    rw [star1 (not_t h1)]
    have ih := star_plain C es xs env pos h3
    show ((false, _) :: backTo pos (starEach xs env)).any (·.1) = false
    rw [List.any_cons, ih]; rfl
theorem plainIx {y : Expr} (h : isSlice y = false) : PlainIx y := by
  intro o i
  cases y <;> first | rfl | cases h
theorem plainTest {x : Expr} (h : plainT x = true) (env : PySem.Env) : ∀ whole, isTrue x env whole = (do let v ← whole; standAt x.pos; holding [v] (truthy v)) := by
  intro whole
  cases x with
  | UnaryOp op a p => cases op <;> first | rfl | cases h
  | _ => first | rfl | cases h
theorem notSup {x : Expr} (h : isCall x = false) (n : Str) (env : PySem.Env) : attributeBase x n env (eval x env) = eval x env := by
  cases x <;> first | rfl | cases h
theorem notSet {it : Expr} (h : isSet it = false) (env : PySem.Env) : ∀ y, foldedSetIterable it env y = pure y := by
  intro y
  cases it <;> first | rfl | cases h
theorem Good.blkG (g : Good G call lv X C) (s : Shared) (H : Hp) (c : Addr) (cl : List (Str × Addr)) (fp : List Addr) (scope : Scope) :
    Good G call lv (X.blk s H scope (compEnvC scope cl c X.env) fp) (C.blk scope) where
  n := g.n
  nd := g.nd
  sc := by
    show relabel scope X.env = relS scope C.sc
    rw [← g.sc]; rfl
  calm := g.calm
  kl := g.kl
  fn := fun x h => h
  room := g.room
  free := g.free
  calls := g.calls
  glob := g.glob
theorem pg_of (g : Good G call lv X C) {tg : List Nat} {t : Expr} (h : trTg C tg t = true) : PG X t (gOf X.K tg) := by
  match tg, t, h with
  | [i], .Name x _, h =>
    obtain ⟨h1, h2, h3⟩ := g.loc h
    exact pg_name (by rw [g.n]; exact g.nd) h1 h2 h3
  | [i, j], .Tuple [.Name x _, .Name y _] _ _, h =>
    obtain ⟨h1, h2⟩ := and_t h
    obtain ⟨a1, a2, a3⟩ := g.loc h1
    obtain ⟨b1, b2, b3⟩ := g.loc h2
    exact pg_tup g.calm (pgs_cons (pg_name (by rw [g.n]; exact g.nd) a1 a2 a3) (pgs_cons (pg_name (by rw [g.n]; exact g.nd) b1 b2 b3) pgs_nil)) rfl rfl
theorem tys_of (g : Good G call lv X C) : ∀ {ts : List Ty} {es : List Expr}, trTys C ts es = true → TyNames X es ts
  | [], [], _ => .nil
  | t :: ts, .Name m q :: es, h => by
    obtain ⟨h1, h2⟩ := and_t h
    obtain ⟨a, b, c⟩ := g.bi h1
    exact .cons a b c (tys_of g h2)
theorem pw_of_pt {op : PySem.BoolOp} {vs : List Expr} {p : Pos} {t : TT} (h : PT X (.BoolOp op vs p) t) : PW X (.BoolOp op vs p) t := ⟨fun wh pins s σ H Q I q => h.run pins s σ H Q I q⟩
end
end Dv

set_option Elab.async false
set_option linter.all false
set_option maxRecDepth 100000
set_option maxHeartbeats 4000000
/-! Dv12: every expression of the small language is what its text does. -/
namespace Dv
open PySem PySem.Spec PyProof.Rows L2

section
variable {G : List D} {call : Nat → List D → M (D × Bool)} {lv : Nat}
theorem both {X : Cx} {x : Expr} {e : E} (h : PE X x (tE X.K G call e)) (p : plainT x = true) : PE X x (tE X.K G call e) ∧ PT X x (tT X.K G call e) := ⟨h, c_test h (plainTest p X.env)⟩
theorem c_iteT {X : Cx} {x y z : Expr} {pos : Pos} {t a b : E} (ht : PT X x (tT X.K G call t)) (ha : PT X y (tT X.K G call a)) (hb : PT X z (tT X.K G call b)) : PT X (.IfExp x y z pos) (tT X.K G call (.ite t a b)) := by
  refine ⟨fun pins s σ H Q I ⟨ρ, S, ι, hE, hS, ho⟩ => ?_⟩
  have ho : Out X.K ι H (((evalE G call ρ t).bind fun v => (asB v.1).bind fun k => ((if k then evalE G call ρ a else evalE G call ρ b).bind fun v => asB v.1)) S) (fun b ι' H' => Q b H') := by
    have e : (((evalE G call ρ t).bind fun v => (asB v.1).bind fun k => ((if k then evalE G call ρ a else evalE G call ρ b).bind fun v => asB v.1)) S) = ((evalE G call ρ (.ite t a b)).bind fun v => asB v.1) S := by
      show _ = ((((evalE G call ρ t).bind fun v => (asB v.1).bind fun k => (if k then evalE G call ρ a else evalE G call ρ b)).bind fun v => asB v.1) S)
      unfold M.bind
      cases evalE G call ρ t S with
      | stuck => rfl
      | ok d S1 => dsimp only; cases asB d.1 S1 <;> rfl
    rw [e]; exact ho
  show wpAny _ _ (isTrue x X.env (eval x X.env) >>= fun c => if c = true then isTrue y X.env (eval y X.env) else isTrue z X.env (eval z X.env)) _ _ _
  refine wpAny_bind (thn (ht.run pins s σ H (fun c H1 => (if c = true then tT X.K G call a else tT X.K G call b) σ H1 Q) I (tT.go hE hS ho fun k S1 ι1 H1 P1 h1 => ?_)) fun c s1 ⟨H1, I1, q⟩ => ?_)
  · cases k with
    | true => exact ⟨ρ, S1, ι1, hE.up P1, P1.st, h1⟩
    | false => exact ⟨ρ, S1, ι1, hE.up P1, P1.st, h1⟩
  · cases c with
    | true => exact ha.run pins s1 σ H1 Q I1 q
    | false => exact hb.run pins s1 σ H1 Q I1 q
/-- read, not kept -/
theorem toP {X : Cx} {C : Cst} {x : Expr} {e : E} (g : Good G call lv X C) (h : trE C e x = true) (he : PE X x (tE X.K G call e)) : PE X x (tP X.K G call e) := by
  by_cases q : ∃ i, e = .var i
  · obtain ⟨i, rfl⟩ := q
    match x, h with
    | .Name n _, h =>
      obtain ⟨h1, h2, h3, h4⟩ := g.var h
      exact c_varP h1 h2 h3 h4
  · exact peP he fun i e => q ⟨i, e⟩
mutual
theorem sE : ∀ (e : E) {X : Cx} {C : Cst} {x : Expr}, Good G call lv X C → trE C e x = true → PE X x (tE X.K G call e) ∧ PT X x (tT X.K G call e)
  | .var i, X, C, x, g, h => by
    match x, h with
    | .Name n _, h =>
      obtain ⟨h1, h2, h3, h4⟩ := g.var h
      exact both (c_var h1 h2 h3 h4) rfl
  | .non, X, C, x, g, h => by
    match x, h with
    | .Constant .none _ _, h => exact both (c_con pe_non (fun _ => rfl) fun _ _ => .non) rfl
  | .bl b, X, C, x, g, h => by
    match x, h with
    | .Constant (.bool c) _ _, h =>
      have e : b = c := by simpa [trE] using h
      subst e
      exact both (c_con pe_bl (fun _ => rfl) fun _ _ => .bl b) rfl
  | .int b, X, C, x, g, h => by
    match x, h with
    | .Constant (.int c) _ _, h =>
      have e : b = c := of_decide_eq_true h
      subst e
      exact both (c_con pe_int (fun _ => rfl) fun _ _ => .int b) rfl
  | .str s, X, C, x, g, h => by
    match x, h with
    | .Constant (.str c) _ _, h =>
      obtain ⟨h1, h2⟩ := and_t h
      have e : c = ⟨s.toArray⟩ := of_decide_eq_true h1
      subst e
      exact both (c_con pe_str (fun _ => rfl) fun _ _ => .str s (by simpa using h2)) rfl
  | .glob i, X, C, x, g, h => by
    match x, h with
    | .Name n _, h =>
      obtain ⟨h1, h2⟩ := and_t h
      obtain ⟨u, v, d, e1, e2, e3, e4⟩ := g.glob i n (of_decide_eq_true h1)
      obtain ⟨g1, g2⟩ := g.isGl h2
      refine both ((pe_glob g1 e1 e2 g2).im fun σ H Q ⟨ρ, S, ι, hE, hS, ho⟩ => ?_) rfl
      have ho : Out X.K ι H (((M.opt G[i]?).bind D.v) S) _ := ho
      rw [e3] at ho
      obtain ⟨d', S1, e5, k1⟩ := ho.bind
      cases e5
      exact (k1 _ _ (Post.refl hS)).v hS v (e4 H ι)
  | .bin o a b, X, C, x, g, h => by
    match x, h with
    | .BinOp x op y _, h =>
      obtain ⟨h1, h2⟩ := and_t h
      obtain ⟨h2, h3⟩ := and_t h2
      have e : biOp o = op := of_decide_eq_true h1
      subst e
      exact both (c_bin g.kl (toP g h2 (sE a g h2).1) (toP g h3 (sE b g h3).1)) rfl
  | .neg a, X, C, x, g, h => by
    match x, h with
    | .UnaryOp .USub x _, h => exact both (c_neg (peD (sE a g h).1)) rfl
  | .cmp o a b, X, C, x, g, h => by
    match x, h with
    | .Compare x [op] [y] _, h =>
      obtain ⟨h1, h2⟩ := and_t h
      obtain ⟨h2, h3⟩ := and_t h2
      obtain ⟨h3, h4⟩ := and_t h3
      have e : cmOp o = op := of_decide_eq_true h1
      subst e
      have pa := toP g h3 (sE a g h3).1
      have pb := toP g h4 (sE b g h4).1
      exact ⟨c_cmp g.hu pa pb (not_t h2), c_cmpT g.hu pa pb (not_t h2)⟩
  | .isN a, X, C, x, g, h => by
    match x, h with
    | .Compare x [.Is] [.Constant .none _ _] _, h =>
      have pa := peD (sE a g h).1
      exact ⟨c_isN pa, c_isNT pa⟩
  | .isnotN a, X, C, x, g, h => by
    match x, h with
    | .Compare x [.IsNot] [.Constant .none _ _] _, h =>
      have pa := peD (sE a g h).1
      exact ⟨c_isnotN pa, c_isnotNT pa⟩
  | .chain o p a b c, X, C, x, g, h => by
    match x, h with
    | .Compare x [op, oq] [y, z] _, h =>
      obtain ⟨h1, k2⟩ := and_t h
      obtain ⟨h2, k3⟩ := and_t k2
      obtain ⟨h3, k4⟩ := and_t k3
      obtain ⟨h4, k5⟩ := and_t k4
      obtain ⟨h5, h6⟩ := and_t k5
      have e1 : cmOp o = op := of_decide_eq_true h1
      have e2 : cmOp p = oq := of_decide_eq_true h2
      subst e1 e2
      have pa := toP g h4 (sE a g h4).1
      have pb := toP g h5 (sE b g h5).1
      have pc := toP g h6 (sE c g h6).1
      exact ⟨c_chain g.hu pa pb pc (not_t h3), c_chainT g.hu pa pb pc (not_t h3)⟩
  | .and a b, X, C, x, g, h => by
    match x, h with
    | .BoolOp .And [x, y] p, h =>
      obtain ⟨h1, h2⟩ := and_t h
      have pa := sE a g h1
      have pb := sE b g h2
      exact ⟨c_and pa.1 (pe_one pb.1), (c_andT pa.2 (pw_and1 pb.2)).pt⟩
    | .BoolOp .And (x :: y :: z :: r) p, h =>
      obtain ⟨h1, h2⟩ := and_t h
      have pa := sE a g h1
      have pb := sE b g h2
      exact ⟨c_and pa.1 pb.1, (c_andT pa.2 (pw_of_pt pb.2)).pt⟩
  | .or a b, X, C, x, g, h => by
    match x, h with
    | .BoolOp .Or [x, y] p, h =>
      obtain ⟨h1, h2⟩ := and_t h
      have pa := sE a g h1
      have pb := sE b g h2
      exact ⟨c_or pa.1 (pe_one pb.1), (c_orT pa.2 (pw_or1 pb.2)).pt⟩
    | .BoolOp .Or (x :: y :: z :: r) p, h =>
      obtain ⟨h1, h2⟩ := and_t h
      have pa := sE a g h1
      have pb := sE b g h2
      exact ⟨c_or pa.1 pb.1, (c_orT pa.2 (pw_of_pt pb.2)).pt⟩
  | .not a, X, C, x, g, h => by
    match x, h with
    | .UnaryOp .Not x _, h =>
      have pa := sE a g h
      exact ⟨c_not pa.1, c_notT pa.2⟩
  | .ite t a b, X, C, x, g, h => by
    match x, h with
    | .IfExp x y z _, h =>
      obtain ⟨h1, h2⟩ := and_t h
      obtain ⟨h2, h3⟩ := and_t h2
      have pt := sE t g h1
      have pa := sE a g h2
      have pb := sE b g h3
      exact ⟨c_ite pt.2 pa.1 pb.1, c_iteT pt.2 pa.2 pb.2⟩
  | .tup es, X, C, x, g, h => by
    match x, h with
    | .Tuple xs _ _, h => exact both (c_tup (sEs es g h)) rfl
  | .lst es, X, C, x, g, h => by
    match x, h with
    | .List xs _, h => exact both (c_lst (sEs es g h)) rfl
  | .idx a i, X, C, x, g, h => by
    match x, h with
    | .Subscript x y _, h =>
      have h' : (!isSlice y && (trE C a x && trE C i y)) = true := by simpa [trE] using h
      obtain ⟨h1, h2⟩ := and_t h'
      obtain ⟨h2, h3⟩ := and_t h2
      exact both (c_idx (toP g h2 (sE a g h2).1) (peD (sE i g h3).1) (plainIx (not_t h1))) rfl
  | .cut a lo hi, X, C, x, g, h => by
    match x, h with
    | .Subscript x (.Slice l u none _) _, h =>
      obtain ⟨h1, h2⟩ := and_t h
      obtain ⟨h2, h3⟩ := and_t h2
      exact both (c_cut (toP g h1 (sE a g h1).1) (sEo lo g h2) (sEo hi g h3)) rfl
  | .b1 f a, X, C, x, g, h => by
    match x, h with
    | .Call (.Name n _) [x] [] _, h =>
      obtain ⟨h1, h2⟩ := and_t h
      obtain ⟨h2, h3⟩ := and_t h2
      obtain ⟨h3, h4⟩ := and_t h3
      obtain ⟨b1, b2, b3⟩ := g.bi h1
      exact both (c_b1 g.calm (fun e => by subst e; cases h2) b1 b2 b3 (toP g h4 (sE a g h4).1) (star1 (not_t h3))) rfl
  | .isin a ts, X, C, x, g, h => by
    match ts, x, h with
    | [t], .Call (.Name n _) [x, .Name m _] [] _, h =>
      obtain ⟨h1, h2⟩ := and_t h
      obtain ⟨h2, h3⟩ := and_t h2
      obtain ⟨h3, h4⟩ := and_t h3
      obtain ⟨b1, b2, b3⟩ := g.bi h1
      obtain ⟨c1, c2, c3⟩ := g.bi h2
      exact both (c_is1 b1 b2 b3 c1 c2 c3 (toP g h4 (sE a g h4).1) (star1 (not_t h3))) rfl
    | ts, .Call (.Name n _) [x, .Tuple es _ _] [] _, h =>
      have h : (C.bi n "isinstance" && (trTys C ts es && (decide (ts.length ≤ 64) && (!isStar x && trE C a x)))) = true := by
        match ts, h with
        | [], h => exact h
        | [t], h => exact h
        | t :: t2 :: r, h => exact h
      obtain ⟨h1, h2⟩ := and_t h
      obtain ⟨h2, h3⟩ := and_t h2
      obtain ⟨h3, h4⟩ := and_t h3
      obtain ⟨h4, h5⟩ := and_t h4
      obtain ⟨b1, b2, b3⟩ := g.bi h1
      exact both (c_isT b1 b2 b3 (tys_of g h2) (of_decide_eq_true h3) (toP g h5 (sE a g h5).1) (star1 (not_t h4))) rfl
  | .join s a, X, C, x, g, h => by
    match x, h with
    | .Call (.Attribute x m p) [y] [] pos, h =>
      obtain ⟨h1, h2⟩ := and_t h
      obtain ⟨h2, h3⟩ := and_t h2
      obtain ⟨h3, h4⟩ := and_t h3
      obtain ⟨h4, h5⟩ := and_t h4
      obtain ⟨h5, h6⟩ := and_t h5
      exact both (c_join (of_decide_eq_true h1) (peD (sE s g h5).1) (toP g h6 (sE a g h6).1) (star1 (not_t h4)) (notSup (not_t h3) _ _) h2) rfl
  | .call f es, X, C, x, g, h => by
    match x, h with
    | .Call (.Name n _) xs [] pos, h =>
      have h' : (okShp (C.shp[f]?) n 0 [] && (C.isGl n && trEs C es xs)) = true := by simpa [trE] using h
      obtain ⟨h1, h2⟩ := and_t h'
      obtain ⟨h2, h3⟩ := and_t h2
      obtain ⟨sh, e1, e2, e3, _⟩ := okShp_ok h1
      obtain ⟨fa, fd, ps, sp, F, c1, c2, c3, _⟩ := g.calls f sh e1
      obtain ⟨dV, dvs, hb, hdv, hsp⟩ := c3 (by simpa using e3)
      rw [e2] at c1
      obtain ⟨g1, g2⟩ := g.isGl h2
      refine both (c_call F g.room g1 c1 c2 hb hdv hsp (fun e => ?_) (sEs es g h3) g2 (fun e r q => ?_) (fun e r q => ?_)) rfl
      · subst e
        match es, h3 with
        | .nil, _ => rfl
      · subst q
        match es, h3 with
        | .cons e' es', h3 => exact star1 (not_t (and_t h3).1)
      · subst q
        match es, h3 with
        | .cons e' es', h3 => exact star_plain C es' r _ _ (and_t (and_t h3).2).2
  | .callK f i j es ks, X, C, x, g, h => by
    match x, h with
    | .Call (.Name n _) xs kws pos, h =>
      have h' : (decide (j = kws.length) && (!(kws.isEmpty) && (okShp (C.shp[f]?) n i (kws.map (·.arg)) && (C.isGl n && (trEs C es xs && trEs C ks (kws.map (·.value))))))) = true := by
        cases kws <;> exact h
      obtain ⟨h0, h1⟩ := and_t h'
      obtain ⟨hne, h1⟩ := and_t h1
      obtain ⟨h1, h2⟩ := and_t h1
      obtain ⟨h2, h3⟩ := and_t h2
      obtain ⟨h3, h4⟩ := and_t h3
      obtain ⟨sh, e1, e2, e3, e4⟩ := okShp_ok h1
      obtain ⟨g1, g2⟩ := g.isGl h2
      have ej : j = sh.ks.length := by
        rw [of_decide_eq_true h0]
        have z := congrArg List.length e3
        simpa using z.symm
      by_cases q : sh.ks = []
      · rw [q] at e3
        cases kws with
        | nil => cases hne
        | cons a b => cases e3
      · obtain ⟨fa, fd, ps, sp, F, c1, c2, _, c3⟩ := g.calls f sh e1
        obtain ⟨gg, gV, hb, hsp⟩ := c3 q
        rw [e2] at c1
        have en := e4.resolve_left q
        rw [en] at hb hsp
        subst ej
        refine both (c_callK F g.room g1 c1 c2 hb hsp (fun e => ?_) (sEs es g h3) (sKs ks g h4) e3.symm g2 (fun e r q => ?_) (star_plain C es xs _ _ h3)) rfl
        · subst e
          match es, h3 with
          | .nil, _ => rfl
        · subst q
          match es, h3 with
          | .cons e' es', h3 => exact star1 (not_t (and_t h3).1)
  | .comp own elt tg src cond, X, C, x, g, h => by
    match x, h with
    | .ListComp x [⟨t, it, ifs, k⟩] scope _, h =>
      obtain ⟨h1, h2⟩ := and_t h
      obtain ⟨h2, h3⟩ := and_t h2
      obtain ⟨h3, h4⟩ := and_t h3
      obtain ⟨h4, h5⟩ := and_t h4
      obtain ⟨h5, h6⟩ := and_t h5
      obtain ⟨h6, h7⟩ := and_t h6
      obtain ⟨h7, h8⟩ := and_t h7
      obtain ⟨h8, h9⟩ := and_t h8
      have e : k = 0 := of_decide_eq_true h1
      subst e
      refine both (c_comp g.calm (by rw [g.n]; exact g.nd) (sIt src g t h6 (fun q => q)) (by rw [g.n, g.sc]; exact blkOk_by h2) (of_decide_eq_true h3) (fun j hj => by simpa using List.all_eq_true.mp h5 j hj)
        (fun s H c cl fp => pg_of (g.blkG s H c cl fp scope) h4) (fun s H c cl fp => c_conds (sCo cond (g.blkG s H c cl fp scope) h7)) (fun s H c cl fp => peD (sE elt (g.blkG s H c cl fp scope) h9).1) (notSet (not_t h8) _)) rfl
theorem sEs : ∀ (es : Es) {X : Cx} {C : Cst} {xs : List Expr}, Good G call lv X C → trEs C es xs = true → PA X xs (tEs X.K G call es)
  | .nil, X, C, xs, g, h => by
    match xs, h with
    | [], _ => exact c_nil
  | .cons e es, X, C, xs, g, h => by
    match xs, h with
    | x :: xs, h =>
      obtain ⟨h1, h2⟩ := and_t h
      obtain ⟨h2, h3⟩ := and_t h2
      exact c_cons (peD (sE e g h2).1) (sEs es g h3) (star1 (not_t h1))
theorem sKs : ∀ (es : Es) {X : Cx} {C : Cst} {kws : List Keyword}, Good G call lv X C → trEs C es (kws.map (·.value)) = true → PK X kws (tEs X.K G call es)
  | .nil, X, C, kws, g, h => by
    match kws, h with
    | [], _ => exact c_knil
  | .cons e es, X, C, kws, g, h => by
    match kws, h with
    | ⟨nm, x, kp⟩ :: kws, h =>
      obtain ⟨h1, h2⟩ := and_t h
      obtain ⟨h2, h3⟩ := and_t h2
      exact c_kcons (peD (sE e g h2).1) (sKs es g h3)
theorem sEo : ∀ (o : Eo) {X : Cx} {C : Cst} {x : Option Expr}, Good G call lv X C → trEo C o x = true → PO X x (tO X.K G call o)
  | .none, X, C, x, g, h => by
    match x, h with
    | none, _ => exact c_onone
  | .some e, X, C, x, g, h => by
    match x, h with
    | some x, h => exact c_osome (peD (sE e g h).1)
theorem sCo : ∀ (o : Eo) {X : Cx} {C : Cst} {ifs : List Expr}, Good G call lv X C → trCo C o ifs = true → (o = .none ∧ ifs = []) ∨ ∃ e x, o = .some e ∧ ifs = [x] ∧ PT X x (tT X.K G call e)
  | .none, X, C, xs, g, h => by
    match xs, h with
    | [], _ => exact .inl ⟨rfl, rfl⟩
  | .some e, X, C, xs, g, h => by
    match xs, h with
    | [x], h => exact .inr ⟨e, x, rfl, rfl, (sE e g h).2⟩
theorem sIt : ∀ (src : It) {X : Cx} {C : Cst} {it : Expr} {tup : Bool}, Good G call lv X C → ∀ t : Expr, trIt C tup src it = true → (tup = true → isTup t = true) → PI X t it (tI X.K G call src)
  | .over e, X, C, it, tup, g, t, h, ht => i_over (toP g h (sE e g h).1)
  | .range e, X, C, it, tup, g, t, h, ht => by
    match it, h with
    | .Call (.Name n _) [x] [] _, h =>
      obtain ⟨h1, h2⟩ := and_t h
      obtain ⟨h2, h3⟩ := and_t h2
      obtain ⟨b1, b2, b3⟩ := g.bi h1
      exact i_range b1 b2 b3 (peD (sE e g h3).1) (star1 (not_t h2))
  | .range2 a b, X, C, it, tup, g, t, h, ht => by
    match it, h with
    | .Call (.Name n _) [x, y] [] _, h =>
      obtain ⟨h1, h2⟩ := and_t h
      obtain ⟨h2, h3⟩ := and_t h2
      obtain ⟨h3, h4⟩ := and_t h3
      obtain ⟨h4, h5⟩ := and_t h4
      obtain ⟨b1, b2, b3⟩ := g.bi h1
      exact i_range2 b1 b2 b3 (peD (sE a g h4).1) (peD (sE b g h5).1) (by rw [star1 (not_t h2), star1 (not_t h3)]; rfl) (star1 (not_t h3))
  | .zip a b, X, C, it, tup, g, t, h, ht => by
    match it, h with
    | .Call (.Name n _) [x, y] [] _, h =>
      obtain ⟨h0, h1⟩ := and_t h
      obtain ⟨h1, h2⟩ := and_t h1
      obtain ⟨h2, h3⟩ := and_t h2
      obtain ⟨h3, h4⟩ := and_t h3
      obtain ⟨h4, h5⟩ := and_t h4
      obtain ⟨b1, b2, b3⟩ := g.bi h1
      have q := ht h0
      match t, q with
      | .Tuple _ _ _, _ => exact i_zip b1 b2 b3 (toP g h4 (sE a g h4).1) (toP g h5 (sE b g h5).1) (star1 (not_t h2)) (star1 (not_t h3))
  | .enum a, X, C, it, tup, g, t, h, ht => by
    match it, h with
    | .Call (.Name n _) [x] [] _, h =>
      obtain ⟨h0, h1⟩ := and_t h
      obtain ⟨h1, h2⟩ := and_t h1
      obtain ⟨h2, h3⟩ := and_t h2
      obtain ⟨b1, b2, b3⟩ := g.bi h1
      have q := ht h0
      match t, q with
      | .Tuple _ _ _, _ => exact i_enum b1 b2 b3 (toP g h3 (sE a g h3).1) (star1 (not_t h2))
end
end
end Dv

set_option Elab.async false
set_option linter.all false
set_option maxRecDepth 100000
set_option maxHeartbeats 1000000
/-! Dv13: statements, case by case. -/
namespace Dv
open PySem PySem.Spec PyProof.Rows L2

/-- behind a statement -/
structure SPost (K : PySem.W.Frag) (ι : List Addr) (H : Hp) (ρ : Env) (σ : L2.St) (S' : Store) (ι' : List Addr) (H' : Hp) (ρ' : Env) (σ' : L2.St) : Prop where
  tups : ∀ b xs, H b = some (.tup xs) → H' b = some (.tup xs)
  frzs : ∀ b o u, H b = some (.frz o u) → H' b = some (.frz o u)
  keep : ∀ b o, H b = some o → b ∉ ι → ¬ Own ρ σ b → H' b = some o
  live : ∀ b, H' b = none → H b = none
  pre : ∃ more, ι' = ι ++ more ∧ ∀ a ∈ more, H a = none
  own : ∀ a, Own ρ' σ' a → Own ρ σ a ∨ H a = none
  st : StR K H' ι' S'
  env : EnvR K H' ι' ρ' σ'
/-- behind a return -/
structure RPost (K : PySem.W.Frag) (ι : List Addr) (H : Hp) (ρ : Env) (σ : L2.St) (S' : Store) (ι' : List Addr) (H' : Hp) (v : V) (x : D × Bool) : Prop where
  tups : ∀ b xs, H b = some (.tup xs) → H' b = some (.tup xs)
  frzs : ∀ b o u, H b = some (.frz o u) → H' b = some (.frz o u)
  keep : ∀ b o, H b = some o → b ∉ ι → ¬ Own ρ σ b → H' b = some o
  live : ∀ b, H' b = none → H b = none
  pre : ∃ more, ι' = ι ++ more ∧ ∀ a ∈ more, H a = none
  st : StR K H' ι' S'
  val : match x.2 with
    | true => ∃ a, v = .ref a ∧ (Own ρ σ a ∨ H a = none) ∧ a ∉ ι' ∧ MOr K H' ι' a x.1
    | false => FV K H' ι' v x.1
section
variable {K : PySem.W.Frag} {H H1 H2 H' : Hp} {ι ι1 ι2 ι' : List Addr} {S S1 S2 S' : Store} {ρ ρ1 ρ2 ρ' : Env} {σ σ1 σ2 σ' : L2.St}
theorem SPost.of (P : Post K ι H S' ι' H') (s : StR K H ι S) (E : EnvR K H ι ρ σ) : SPost K ι H ρ σ S' ι' H' ρ σ :=
  ⟨P.tups, P.frzs, fun b o e h _ => P.keep b o e h, fun b e => P.back s e, P.pre, fun a h => .inl h, P.st, E.up P⟩
theorem SPost.refl (s : StR K H ι S) (E : EnvR K H ι ρ σ) : SPost K ι H ρ σ S ι H ρ σ := SPost.of (Post.refl s) s E
theorem SPost.out (P : SPost K ι H ρ σ S' ι' H' ρ' σ') {a : Addr} {o : HO} (h : H a = some o) (ha : a ∉ ι) : a ∉ ι' := by
  obtain ⟨more, e, hm⟩ := P.pre
  subst e
  intro z
  rcases List.mem_append.mp z with z | z
  · exact ha z
  · rw [hm a z] at h; cases h
theorem pre_trans {more more2 : List Addr} (e1 : ι1 = ι ++ more) (h1 : ∀ a ∈ more, H a = none) (e2 : ι2 = ι1 ++ more2) (h2 : ∀ a ∈ more2, H1 a = none) (lv : ∀ b, H1 b = none → H b = none) : ∃ more, ι2 = ι ++ more ∧ ∀ a ∈ more, H a = none :=
  ⟨more ++ more2, by rw [e2, e1, List.append_assoc], fun a ha => (List.mem_append.mp ha).elim (h1 a) fun z => lv a (h2 a z)⟩
theorem SPost.trans (P : SPost K ι H ρ σ S1 ι1 H1 ρ1 σ1) (Q : SPost K ι1 H1 ρ1 σ1 S2 ι2 H2 ρ2 σ2) : SPost K ι H ρ σ S2 ι2 H2 ρ2 σ2 where
  tups := fun b xs e => Q.tups b xs (P.tups b xs e)
  frzs := fun b o u e => Q.frzs b o u (P.frzs b o u e)
  keep := fun b o e hb ho => Q.keep b o (P.keep b o e hb ho) (P.out e hb) fun z => (P.own b z).elim ho fun q => by rw [q] at e; cases e
  live := fun b e => P.live b (Q.live b e)
  pre := by
    obtain ⟨m1, e1, h1⟩ := P.pre
    obtain ⟨m2, e2, h2⟩ := Q.pre
    exact pre_trans e1 h1 e2 h2 P.live
  own := fun a h => (Q.own a h).elim (P.own a) fun e => .inr (P.live a e)
  st := Q.st
  env := Q.env
theorem SPost.ret {v : V} {x : D × Bool} (P : SPost K ι H ρ σ S1 ι1 H1 ρ1 σ1) (Q : RPost K ι1 H1 ρ1 σ1 S2 ι2 H2 v x) : RPost K ι H ρ σ S2 ι2 H2 v x where
  tups := fun b xs e => Q.tups b xs (P.tups b xs e)
  frzs := fun b o u e => Q.frzs b o u (P.frzs b o u e)
  keep := fun b o e hb ho => Q.keep b o (P.keep b o e hb ho) (P.out e hb) fun z => (P.own b z).elim ho fun q => by rw [q] at e; cases e
  live := fun b e => P.live b (Q.live b e)
  pre := by
    obtain ⟨m1, e1, h1⟩ := P.pre
    obtain ⟨m2, e2, h2⟩ := Q.pre
    exact pre_trans e1 h1 e2 h2 P.live
  st := Q.st
  val := by
    have z := Q.val
    obtain ⟨d, b⟩ := x
    cases b with
    | false => exact z
    | true =>
      obtain ⟨a, e, h, r⟩ := z
      exact ⟨a, e, h.elim (P.own a) fun q => .inr (P.live a q), r⟩
theorem RPost.of {v : V} {x : D × Bool} (P : Post K ι H S' ι' H') (s : StR K H ι S) (h : VR K H H' ι' v x) : RPost K ι H ρ σ S' ι' H' v x :=
  ⟨P.tups, P.frzs, fun b o e h _ => P.keep b o e h, fun b e => P.back s e, P.pre, P.st, by
    obtain ⟨d, b⟩ := x
    cases b with
    | false => exact h
    | true => obtain ⟨a, e, hn, r⟩ := h; exact ⟨a, e, .inr hn, r⟩⟩

theorem own_set {i : Nat} {o : Option Sl} {v : Option V} {a : Addr} (ho : ∀ d, o ≠ some (.own d)) (h : Own (ρ.set i o) (σ.set i v) a) : Own ρ σ a := by
  obtain ⟨j, d, h1, h2⟩ := h
  by_cases q : i = j
  · subst q
    by_cases hl : i < ρ.length
    · rw [List.getElem?_set_self hl] at h1
      exact absurd (Option.some.inj h1) (ho d)
    · rw [List.getElem?_eq_none (by simpa using hl)] at h1; cases h1
  · rw [List.getElem?_set_ne q] at h1 h2
    exact ⟨j, d, h1, h2⟩
theorem SPost.setV (P : SPost K ι H ρ σ S' ι' H' ρ' σ') {v : V} {d : D} (h : FV K H' ι' v d) (i : Nat) : SPost K ι H ρ σ S' ι' H' (ρ'.set i (some (.val d))) (σ'.set i (some v)) :=
  ⟨P.tups, P.frzs, P.keep, P.live, P.pre, fun a z => P.own a (own_set (fun _ q => by injection q with q; cases q) z), P.st, P.env.set h i⟩
theorem EnvR.setOwn (E : EnvR K H ι ρ σ) {a : Addr} {d : D} (ho : ¬ Own ρ σ a) (m : MOr K H ι a d) (hi : a ∉ ι) (i : Nat) : EnvR K H ι (ρ.set i (some (.own d))) (σ.set i (some (.ref a))) where
  len := by rw [List.length_set, List.length_set]; exact E.len
  val := fun j e hj => by
    by_cases q : i = j
    · subst q
      by_cases hl : i < ρ.length
      · rw [List.getElem?_set_self hl] at hj; cases hj
      · rw [List.getElem?_eq_none (by simpa using hl)] at hj; cases hj
    · rw [List.getElem?_set_ne q] at hj ⊢
      exact E.val j e hj
  own := fun j e hj => by
    by_cases q : i = j
    · subst q
      by_cases hl : i < ρ.length
      · rw [List.getElem?_set_self hl] at hj
        cases hj
        exact ⟨a, List.getElem?_set_self (by rw [← E.len]; exact hl), m, hi⟩
      · rw [List.getElem?_eq_none (by simpa using hl)] at hj; cases hj
    · rw [List.getElem?_set_ne q] at hj ⊢
      exact E.own j e hj
  dj := fun j k d1 d2 b h1 h2 h3 h4 => by
    have at_i : ∀ {e : D} {b : Addr}, (ρ.set i (some (Sl.own d)))[i]? = some (some (.own e)) → (σ.set i (some (V.ref a)))[i]? = some (some (.ref b)) → b = a := fun {e b} z w => by
      by_cases hl : i < ρ.length
      · rw [List.getElem?_set_self (by rw [← E.len]; exact hl)] at w
        cases w; rfl
      · rw [List.getElem?_eq_none (by simpa using hl)] at z; cases z
    by_cases q1 : i = j
    · subst q1
      by_cases q2 : i = k
      · exact q2
      · have e := at_i h1 h3
        subst e
        rw [List.getElem?_set_ne q2] at h2 h4
        exact absurd ⟨k, d2, h2, h4⟩ ho
    · by_cases q2 : i = k
      · subst q2
        have e := at_i h2 h4
        subst e
        rw [List.getElem?_set_ne q1] at h1 h3
        exact absurd ⟨j, d1, h1, h3⟩ ho
      · rw [List.getElem?_set_ne q1] at h1 h3
        rw [List.getElem?_set_ne q2] at h2 h4
        exact E.dj j k d1 d2 b h1 h2 h3 h4
theorem SPost.setOwn (P : Post K ι H S' ι' H') (s : StR K H ι S) (E : EnvR K H ι ρ σ) {a : Addr} {d : D} (hn : H a = none) (m : MOr K H' ι' a d) (hi : a ∉ ι') (i : Nat) : SPost K ι H ρ σ S' ι' H' (ρ.set i (some (.own d))) (σ.set i (some (.ref a))) := by
  have no : ¬ Own ρ σ a := notown0 E hn
  refine ⟨P.tups, P.frzs, fun b o e h _ => P.keep b o e h, fun b e => P.back s e, P.pre, fun b h => ?_, P.st, (E.up P).setOwn no m hi i⟩
  obtain ⟨j, e, h1, h2⟩ := h
  by_cases q : i = j
  · subst q
    by_cases hl : i < ρ.length
    · rw [List.getElem?_set_self (by rw [← E.len]; exact hl)] at h2
      cases h2
      exact .inr hn
    · rw [List.getElem?_eq_none (by simpa using hl)] at h1; cases h1
  · rw [List.getElem?_set_ne q] at h1 h2
    exact .inl ⟨j, e, h1, h2⟩
/-- an own list is changed -/
theorem EnvR.chgOwn (E : EnvR K H ι ρ σ) {i : Nat} {d d' : D} {a : Addr} {xs : List V} {o : HO} (hi : ρ[i]? = some (some (.own d))) (hs : σ[i]? = some (some (.ref a))) (ha : H a = some (.lst xs)) (m : MOr K (upd H a o) ι a d') :
    EnvR K (upd H a o) ι (ρ.set i (some (.own d'))) σ where
  len := by rw [List.length_set]; exact E.len
  val := fun j e hj => by
    by_cases q : i = j
    · subst q
      rw [List.getElem?_set_self (List.getElem?_eq_some_iff.mp hi).1] at hj; cases hj
    · rw [List.getElem?_set_ne q] at hj
      obtain ⟨v, h1, h2⟩ := E.val j e hj
      exact ⟨v, h1, h2.up (chg_up ha).1 (chg_up ha).2 fun _ _ q => q⟩
  own := fun j e hj => by
    by_cases q : i = j
    · subst q
      rw [List.getElem?_set_self (List.getElem?_eq_some_iff.mp hi).1] at hj
      cases hj
      obtain ⟨b, h1, h2, h3⟩ := E.own i d hi
      rw [hs] at h1
      cases h1
      exact ⟨a, hs, m, h3⟩
    · rw [List.getElem?_set_ne q] at hj
      obtain ⟨b, h1, ⟨ds, ys, e1, h2, h4⟩, h3⟩ := E.own j e hj
      have nb : b ≠ a := fun z => q (E.dj i j d e a hi hj hs (z ▸ h1))
      exact ⟨b, h1, ⟨ds, ys, e1, by rw [upd_ne nb]; exact h2, h4.up (chg_up ha).1 (chg_up ha).2 fun _ _ q => q⟩, h3⟩
  dj := fun j k d1 d2 b h1 h2 h3 h4 => by
    have z : ∀ {j : Nat} {e : D}, (ρ.set i (some (Sl.own d')))[j]? = some (some (.own e)) → ∃ e', ρ[j]? = some (some (.own e')) := fun {j e} hj => by
      by_cases q : i = j
      · subst q; exact ⟨d, hi⟩
      · rw [List.getElem?_set_ne q] at hj; exact ⟨e, hj⟩
    obtain ⟨e1, g1⟩ := z h1
    obtain ⟨e2, g2⟩ := z h2
    exact E.dj j k e1 e2 b g1 g2 h3 h4
theorem SPost.chgOwn (P : Post K ι H S' ι' H') (s : StR K H ι S) (E : EnvR K H ι ρ σ) {i : Nat} {d d' : D} {a : Addr} {xs : List V} {o : HO} (hi : ρ[i]? = some (some (.own d))) (hs : σ[i]? = some (some (.ref a))) (ha : H' a = some (.lst xs))
    (hn : a ∉ ι') (m : MOr K (upd H' a o) ι' a d') : SPost K ι H ρ σ S' ι' (upd H' a o) (ρ.set i (some (.own d'))) σ := by
  have oa : Own ρ σ a := ⟨i, d, hi, hs⟩
  refine ⟨fun b zs e => (chg_up ha).1 _ _ (P.tups b zs e), fun b o u e => (chg_up ha).2 _ _ _ (P.frzs b o u e), fun b u e h1 h2 => ?_, fun b e => ?_, P.pre, fun b h => ?_, chg_st P.st hn ha, (E.up P).chgOwn hi hs ha m⟩
  · rw [upd_ne (fun z : b = a => h2 (by rw [z]; exact oa))]; exact P.keep b u e h1
  · by_cases q : b = a
    · subst q; rw [upd_same] at e; cases e
    · rw [upd_ne q] at e; exact P.back s e
  · obtain ⟨j, e, h1, h2⟩ := h
    by_cases q : i = j
    · subst q; exact .inl ⟨i, d, hi, h2⟩
    · rw [List.getElem?_set_ne q] at h1; exact .inl ⟨j, e, h1, h2⟩
end

section
variable (K : PySem.W.Frag) (G : List D) (call : Nat → List D → M (D × Bool))
def SOut (ι : List Addr) (H : Hp) (ρ : Env) (σ : L2.St) (r : Res SR) (W : Ends) : Prop := match r with
  | .ok (.nx ρ') S' => ∀ ι' H' σ', SPost K ι H ρ σ S' ι' H' ρ' σ' → W.nx σ' H'
  | .ok (.brk ρ') S' => ∀ ι' H' σ', SPost K ι H ρ σ S' ι' H' ρ' σ' → W.bk σ' H'
  | .ok (.ct ρ') S' => ∀ ι' H' σ', SPost K ι H ρ σ S' ι' H' ρ' σ' → W.ct σ' H'
  | .ok (.ret x) S' => ∀ ι' H' v, RPost K ι H ρ σ S' ι' H' v x → W.rt v H'
  | .stuck => False
def tS (st : Sm) : TS := fun W σ H => ∃ ρ S ι, EnvR K H ι ρ σ ∧ StR K H ι S ∧ SOut K ι H ρ σ (exec G call st ρ S) W
def tSs (sts : Ss) : TS := fun W σ H => ∃ ρ S ι, EnvR K H ι ρ σ ∧ StR K H ι S ∧ SOut K ι H ρ σ (execs G call sts ρ S) W
end
section
variable {K : PySem.W.Frag} {H H1 : Hp} {ι ι1 : List Addr} {S S1 : Store} {ρ ρ1 : Env} {σ σ1 : L2.St} {W : Ends}
theorem SOut.step {r : Res SR} (P : SPost K ι H ρ σ S1 ι1 H1 ρ1 σ1) (h : SOut K ι H ρ σ r W) : SOut K ι1 H1 ρ1 σ1 r W := by
  cases r with
  | stuck => exact h
  | ok o S' =>
    cases o with
    | nx ρ' => exact fun ι' H' σ' Q => h ι' H' σ' (P.trans Q)
    | brk ρ' => exact fun ι' H' σ' Q => h ι' H' σ' (P.trans Q)
    | ct ρ' => exact fun ι' H' σ' Q => h ι' H' σ' (P.trans Q)
    | ret x => exact fun ι' H' v Q => h ι' H' v (P.ret Q)
/-- a part that is an evaluation -/
theorem SOut.bind {α : Type} {m : M α} {f : α → M SR} (hE : EnvR K H ι ρ σ) (hS : StR K H ι S) (h : SOut K ι H ρ σ ((m.bind f) S) W) : ∃ a S1, m S = .ok a S1 ∧ ∀ ι1 H1, Post K ι H S1 ι1 H1 → SOut K ι1 H1 ρ σ (f a S1) W := by
  unfold M.bind at h
  cases e : m S with
  | stuck => rw [e] at h; exact h.elim
  | ok a S1 =>
    rw [e] at h
    exact ⟨a, S1, rfl, fun ι1 H1 P => SOut.step (SPost.of P hS hE) h⟩
theorem SOut.guard {p : Prop} [Decidable p] {m : M SR} (h : SOut K ι H ρ σ (guard p m S) W) : p ∧ SOut K ι H ρ σ (m S) W := by
  unfold Dv.guard at h
  by_cases q : p
  · rw [if_pos q] at h; exact ⟨q, h⟩
  · rw [if_neg q] at h; exact h.elim
/-- a list left to all, behind a statement -/
def frzNx (N : L2.St → Hp → Prop) : L2.St → Hp → Prop := fun σ H => N σ H ∨ ∃ a xs, H a = some (.lst xs) ∧ ∀ od, N σ (upd H a (.frz od (.lst xs)))
theorem ps_frz {X : Cx} {st : Stmt} {t : TS} (h : PS X st t) : PS X st (fun W σ H => t { W with nx := frzNx W.nx } σ H) := by
  refine ⟨fun pins s σ H W I q => thn (h.run pins s σ H _ I q) fun f s1 r => ?_⟩
  cases f with
  | next =>
    obtain ⟨σ', H', I', c⟩ := r
    rcases c with c | ⟨a, xs, ha, c⟩
    · exact ⟨σ', H', I', c⟩
    · obtain ⟨od, I2⟩ := I'.lock ha trivial
      exact ⟨σ', _, I2, c od⟩
  | ret v => exact r
  | brk => exact r
  | cont => exact r
theorem _root_.L2.PS.im {X : Cx} {st : Stmt} {t t' : TS} (h : PS X st t) (i : ∀ W σ H, t' W σ H → t W σ H) : PS X st t' := ⟨fun pins s σ H W I q => h.run pins s σ H W I (i _ _ _ q)⟩
theorem _root_.L2.PSs.im {X : Cx} {st : List Stmt} {t t' : TS} (h : PSs X st t) (i : ∀ W σ H, t' W σ H → t W σ H) : PSs X st t' := ⟨fun pins s σ H W I q => h.run pins s σ H W I (i _ _ _ q)⟩
end
section
variable {X : Cx} {G : List D} {call : Nat → List D → M (D × Bool)} {K : PySem.W.Frag} {H H1 : Hp} {ι ι1 : List Addr} {S S1 : Store} {ρ ρ1 : Env} {σ σ1 : L2.St} {W : Ends}
theorem tE.goS {e : E} {f : D × Bool → M SR} {Q : VK} (hE : EnvR K H ι ρ σ) (hS : StR K H ι S) (h : SOut K ι H ρ σ (((evalE G call ρ e).bind f) S) W)
    (c : ∀ d S1 ι1 H1 v, Post K ι H S1 ι1 H1 → VR K H H1 ι1 v d → SOut K ι H ρ σ (f d S1) W → Q v H1) : tE K G call e σ H Q := by
  unfold M.bind at h
  cases e1 : evalE G call ρ e S with
  | stuck => rw [e1] at h; exact h.elim
  | ok d S1 =>
    rw [e1] at h
    refine ⟨ρ, S, ι, hE, hS, ?_⟩
    rw [e1]
    exact fun ι1 H1 P v hv => c d S1 ι1 H1 v P hv h
theorem tD.goS {e : E} {f : D × Bool → M SR} {Q : VK} (hE : EnvR K H ι ρ σ) (hS : StR K H ι S) (h : SOut K ι H ρ σ (((evalE G call ρ e).bind f) S) W)
    (c : ∀ d S1 ι1 H1 v, Post K ι H S1 ι1 H1 → FV K H1 ι1 v d.1 → SOut K ι H ρ σ (f d S1) W → Q v H1) : tD K G call e σ H Q := by
  unfold M.bind at h
  cases e1 : evalE G call ρ e S with
  | stuck => rw [e1] at h; exact h.elim
  | ok d S1 =>
    rw [e1] at h
    refine ⟨ρ, S, ι, hE, hS, ?_⟩
    rw [e1]
    exact fun ι1 H1 P v hv => c d S1 ι1 H1 v P hv h
theorem tT.goS {e : E} {f : Bool → M SR} {Q : Bool → Hp → Prop} (hE : EnvR K H ι ρ σ) (hS : StR K H ι S) (h : SOut K ι H ρ σ (((evalE G call ρ e).bind fun x => (asB x.1).bind f) S) W)
    (c : ∀ d S1 ι1 H1, Post K ι H S1 ι1 H1 → SOut K ι H ρ σ (f d S1) W → Q d H1) : tT K G call e σ H Q := by
  have h : SOut K ι H ρ σ ((((evalE G call ρ e).bind fun x => asB x.1).bind f) S) W := by
    have e : (((evalE G call ρ e).bind fun x => asB x.1).bind f) S = ((evalE G call ρ e).bind fun x => (asB x.1).bind f) S := by
      unfold M.bind
      cases evalE G call ρ e S <;> rfl
    rw [e]; exact h
  unfold M.bind at h
  cases e1 : ((evalE G call ρ e).bind fun x => asB x.1) S with
  | stuck => unfold M.bind at e1; rw [e1] at h; exact h.elim
  | ok d S1 =>
    refine ⟨ρ, S, ι, hE, hS, ?_⟩
    rw [e1]
    unfold M.bind at e1
    rw [e1] at h
    exact fun ι1 H1 P => c d S1 ι1 H1 P h

/-! ### stores to names -/
theorem s_set {i : Nat} {e : E} {st : Stmt} (h : PS X st (tAsg (tE X.K G call e) (gName i))) : PS X st (tS X.K G call (.set i e)) :=
  (ps_frz h).im fun W σ H ⟨ρ, S, ι, hE, hS, ho⟩ => by
    refine tE.goS (f := fun x => M.ret (.nx (ρ.set i (some (.val x.1))))) hE hS ho fun d S1 ι1 H1 v P hv h1 => ?_
    obtain ⟨d, b⟩ := d
    cases b with
    | false => exact .inl (h1 ι1 H1 _ ((SPost.of P hS hE).setV hv i))
    | true =>
      obtain ⟨a, rfl, hn, hi, ds, xs, e, hH, hvs⟩ := hv
      have e : d = .lst ds := e
      subst e
      refine .inr ⟨a, xs, hH, fun od => ?_⟩
      obtain ⟨P', hf⟩ := P.frz (od := od) hn hi hH hvs
      exact h1 ι1 _ _ ((SPost.of P' hS hE).setV hf i)
theorem s_own {i : Nat} {e : E} {st : Stmt} (h : PS X st (tAsg (tE X.K G call e) (gName i))) : PS X st (tS X.K G call (.own i e)) :=
  h.im fun W σ H ⟨ρ, S, ι, hE, hS, ho⟩ => by
    refine tE.goS (f := fun x => Dv.guard (x.2 = true) (M.ret (.nx (ρ.set i (some (.own x.1)))))) hE hS ho fun d S1 ι1 H1 v P hv h1 => ?_
    obtain ⟨g, h1⟩ := h1.guard
    obtain ⟨d, b⟩ := d
    have g : b = true := g
    subst g
    obtain ⟨a, rfl, hn, hi, m⟩ := hv
    exact h1 ι1 H1 _ (SPost.setOwn P hS hE hn m hi i)
theorem Post.sha {S' : Store} {ι' : List Addr} {H' : Hp} {a : Addr} {d : D} (P : Post K ι H S' ι' H') (hn : H a = none) (hi : a ∉ ι') (m : MOr K H' ι' a d) : Post K ι H (S' ++ [d]) (ι' ++ [a]) H' := by
  have up : ∀ (n : Nat) (b : Addr), ι'[n]? = some b → (ι' ++ [a])[n]? = some b := fun n b e => by rw [List.getElem?_append_left (List.getElem?_eq_some_iff.mp e).1]; exact e
  have mono : ∀ {b : Addr} {e : D}, MOr K H' ι' b e → MOr K H' (ι' ++ [a]) b e := fun ⟨ds, xs, e1, e2, e3⟩ => ⟨ds, xs, e1, e2, e3.up (fun _ _ q => q) (fun _ _ _ q => q) up⟩
  refine ⟨P.tups, P.frzs, P.keep, ?_, ⟨by rw [List.length_append, List.length_append, P.st.len]; rfl, ?_, fun n b e h1 h2 => ?_⟩⟩
  · obtain ⟨more, e, hm⟩ := P.pre
    refine ⟨more ++ [a], by rw [e, List.append_assoc], fun b hb => ?_⟩
    rcases List.mem_append.mp hb with z | z
    · exact hm b z
    · have e : b = a := by simpa using z
      rw [e]; exact hn
  · rw [List.nodup_append]
    exact ⟨P.st.nd, by simp, fun b hb c hc e => by
      have z : c = a := by simpa using hc
      subst z
      subst e
      exact hi hb⟩
  · by_cases q : n < ι'.length
    · rw [List.getElem?_append_left q] at h1
      rw [List.getElem?_append_left (by rw [← P.st.len]; exact q)] at h2
      exact mono (P.st.obj n b e h1 h2)
    · rw [List.getElem?_append_right (by omega)] at h1
      rw [List.getElem?_append_right (by rw [← P.st.len]; omega)] at h2
      rw [← P.st.len] at h2
      have e0 : n - ι'.length = 0 := by
        have := (List.getElem?_eq_some_iff.mp h1).1
        simp at this
        omega
      rw [e0] at h1 h2
      cases h1
      cases h2
      exact mono m
theorem s_sha {i : Nat} {e : E} {st : Stmt} (h : PS X st (tAsg (tE X.K G call e) (gName i))) : PS X st (tS X.K G call (.sha i e)) :=
  h.im fun W σ H ⟨ρ, S, ι, hE, hS, ho⟩ => by
    refine tE.goS (f := fun x => Dv.guard (x.2 = true) ((newO x.1).bind fun r => M.ret (.nx (ρ.set i (some (.val r)))))) hE hS ho fun d S1 ι1 H1 v P hv h1 => ?_
    obtain ⟨g, h1⟩ := h1.guard
    obtain ⟨d, b⟩ := d
    have g : b = true := g
    subst g
    obtain ⟨a, rfl, hn, hi, m⟩ := hv
    refine h1 _ H1 _ ((SPost.of (P.sha hn hi m) hS hE).setV (.ref ?_) i)
    rw [← P.st.len, List.getElem?_append_right (Nat.le_refl _)]
    simp
end
end Dv

set_option Elab.async false
set_option linter.all false
set_option maxRecDepth 100000
set_option maxHeartbeats 1000000
/-! Dv14: statements, further cases. -/
namespace Dv
open PySem PySem.Spec PyProof.Rows L2

theorem nodup_ixA {l : List Addr} (h : l.Nodup) {i j : Nat} {a : Addr} (h1 : l[i]? = some a) (h2 : l[j]? = some a) : i = j := by
  obtain ⟨x1, e1⟩ := List.getElem?_eq_some_iff.mp h1
  obtain ⟨x2, e2⟩ := List.getElem?_eq_some_iff.mp h2
  exact (List.getElem_inj h).mp (e1.trans e2.symm)
section
variable {K : PySem.W.Frag} {H H' : Hp} {ι ι' : List Addr} {S S' : Store} {ρ ρ' : Env} {σ σ' : L2.St}
theorem gOf_okS {tg : List Nat} {d : D} {x : V} {ρ2 : Env} {Q : L2.St → Hp → Prop} (hp : put ρ' tg d = some ρ2) (P : SPost K ι H ρ σ S' ι' H' ρ' σ') (h : FV K H' ι' x d)
    (q : ∀ σ2, SPost K ι H ρ σ S' ι' H' ρ2 σ2 → Q σ2 H') : gOf K tg x σ' H' Q := by
  match tg, hp with
  | [i], hp =>
    cases hp
    exact q _ (P.setV h i)
  | [i, j], hp =>
    match d, hp, h with
    | .tup [a, b], hp, h =>
      cases hp
      cases h with
      | tup h1 h2 =>
        cases h2 with
        | cons f1 h2 =>
          cases h2 with
          | cons f2 h2 =>
            cases h2
            exact ⟨_, _, rfl, h1, rfl, _, _, rfl, _, _, rfl, rfl, q _ ((P.setV f1 i).setV f2 j)⟩
end
section
variable {X : Cx} {x y z : Expr} {pos : Pos} {G : List D} {call : Nat → List D → M (D × Bool)}
/-! ### return, if, small things -/
theorem s_ret {e : E} (he : ∀ i, e ≠ .var i) (h : PE X x (tE X.K G call e)) : PS X (.Return (some x) pos) (tS X.K G call (.ret e)) :=
  (ps_ret h).im fun W σ H ⟨ρ, S, ι, hE, hS, ho⟩ => by
    have ho : SOut X.K ι H ρ σ (((evalE G call ρ e).bind fun x => M.ret (.ret x)) S) W := by
      cases e <;> first | exact ho | exact absurd rfl (he _)
    refine tE.goS (f := fun x => M.ret (.ret x)) hE hS ho fun d S1 ι1 H1 v P hv h1 => ?_
    exact h1 ι1 H1 v (RPost.of P hS hv)
theorem s_retV {i : Nat} {n : Str} {p : Pos} (hN : X.N[i]? = some n) (hv : Vis X.env.scope n) (hd : (n == ("__debug__" : Str)) = false) (hcd : (n == ("__classdict__" : Str)) = false) : PS X (.Return (some (.Name n p)) pos) (tS X.K G call (.ret (.var i))) :=
  (ps_ret (pe_var hN hv hd hcd)).im fun W σ H ⟨ρ, S, ι, hE, hS, ho⟩ => by
    have ho : SOut X.K ι H ρ σ ((match ρ[i]? with
      | some (some (.own d)) => M.ret (.ret (d, true))
      | some (some (.val d)) => M.ret (.ret (d, false))
      | _ => M.fail : M SR) S) W := ho
    have P := SPost.refl hS hE
    cases q : ρ[i]? with
    | none => rw [q] at ho; exact ho.elim
    | some o =>
      cases o with
      | none => rw [q] at ho; exact ho.elim
      | some sl =>
        cases sl with
        | val d =>
          rw [q] at ho
          obtain ⟨v, h1, h2⟩ := hE.val i d q
          exact ⟨v, h1, ho ι H v (RPost.of (Post.refl hS) hS h2)⟩
        | own d =>
          rw [q] at ho
          obtain ⟨a, h1, h2, h3⟩ := hE.own i d q
          exact ⟨_, h1, ho ι H _ ⟨P.tups, P.frzs, P.keep, P.live, P.pre, hS, a, rfl, .inl ⟨i, d, q, h1⟩, h3, h2⟩⟩
theorem s_retN : PS X (.Return none pos) (tS X.K G call .retN) :=
  ps_retN.im fun W σ H ⟨ρ, S, ι, hE, hS, ho⟩ => ho ι H _ (RPost.of (Post.refl hS) hS .non)
theorem s_if {t : E} {a b : Ss} {as bs : List Stmt} (ht : PT X x (tT X.K G call t)) (ha : PSs X as (tSs X.K G call a)) (hb : PSs X bs (tSs X.K G call b)) : PS X (.If x as bs pos) (tS X.K G call (.if_ t a b)) :=
  (ps_if ht ha hb).im fun W σ H ⟨ρ, S, ι, hE, hS, ho⟩ => by
    refine tT.goS (f := fun k => if k then execs G call a ρ else execs G call b ρ) hE hS ho fun k S1 ι1 H1 P h1 => ?_
    have h1 := SOut.step (SPost.of P hS hE) h1
    cases k with
    | true => exact ⟨ρ, S1, ι1, hE.up P, P.st, h1⟩
    | false => exact ⟨ρ, S1, ι1, hE.up P, P.st, h1⟩
theorem s_pass : PS X (.Pass pos) (tS X.K G call .pass) := ps_pass.im fun W σ H ⟨ρ, S, ι, hE, hS, ho⟩ => ho ι H σ (SPost.refl hS hE)
theorem s_brk : PS X (.Break pos) (tS X.K G call .brk) := ps_break.im fun W σ H ⟨ρ, S, ι, hE, hS, ho⟩ => ho ι H σ (SPost.refl hS hE)
theorem s_cont : PS X (.Continue pos) (tS X.K G call .cont) := ps_continue.im fun W σ H ⟨ρ, S, ι, hE, hS, ho⟩ => ho ι H σ (SPost.refl hS hE)
theorem s_expr {e : E} (h : PE X x (tE X.K G call e)) (hs : swapsWith x none pos.line X.env = pure false) : PS X (.Expr x pos) (tS X.K G call (.expr e)) :=
  (ps_expr h hs).im fun W σ H ⟨ρ, S, ι, hE, hS, ho⟩ => by
    refine tE.goS (f := fun _ => M.ret (.nx ρ)) hE hS ho fun d S1 ι1 H1 v P hv h1 => ?_
    exact h1 ι1 H1 σ (SPost.of P hS hE)

/-! ### blocks -/
theorem ss_nil : PSs X [] (tSs X.K G call .nil) := pss_nil.im fun W σ H ⟨ρ, S, ι, hE, hS, ho⟩ => ho ι H σ (SPost.refl hS hE)
theorem ss_cons {s : Sm} {r : Ss} {st : Stmt} {rest : List Stmt} (h1 : PS X st (tS X.K G call s)) (h2 : PSs X rest (tSs X.K G call r)) : PSs X (st :: rest) (tSs X.K G call (.cons s r)) :=
  (pss_cons h1 h2).im fun W σ H ⟨ρ, S, ι, hE, hS, ho⟩ => by
    refine ⟨ρ, S, ι, hE, hS, ?_⟩
    have ho : SOut X.K ι H ρ σ (((exec G call s ρ).bind fun o => match o with
      | .nx ρ' => execs G call r ρ'
      | o => M.ret o) S) W := ho
    unfold M.bind at ho
    cases e : exec G call s ρ S with
    | stuck => rw [e] at ho; exact ho.elim
    | ok o S1 =>
      rw [e] at ho
      cases o with
      | nx ρ' => exact fun ι' H' σ' P => ⟨ρ', S1, ι', P.env, P.st, SOut.step P ho⟩
      | brk ρ' => exact ho
      | ct ρ' => exact ho
      | ret v => exact ho
/-- an own list left to all, in between -/
theorem ss_frz {i : Nat} {r : Ss} {sts : List Stmt} (h : PSs X sts (tSs X.K G call r)) : PSs X sts (tSs X.K G call (.cons (.frz i) r)) := by
  refine ⟨fun pins s σ H W I ⟨ρ, S, ι, hE, hS, ho⟩ => ?_⟩
  have ho : SOut X.K ι H ρ σ ((((ownOf ρ i).bind fun o => M.ret (SR.nx (ρ.set i (some (.val o))))).bind fun o => match o with
      | SR.nx ρ' => execs G call r ρ'
      | o => M.ret o) S) W := ho
  cases q : ρ[i]? with
  | none => unfold ownOf at ho; rw [q] at ho; exact ho.elim
  | some o =>
    cases o with
    | none => unfold ownOf at ho; rw [q] at ho; exact ho.elim
    | some sl =>
      cases sl with
      | val d => unfold ownOf at ho; rw [q] at ho; exact ho.elim
      | own d =>
        unfold ownOf at ho; rw [q] at ho
        have ho : SOut X.K ι H ρ σ (execs G call r (ρ.set i (some (.val d))) S) W := ho
        obtain ⟨a, h1, ⟨ds, xs, e, hH, hv⟩, h3⟩ := hE.own i d q
        subst e
        obtain ⟨od, I2⟩ := I.lock hH trivial
        have hl := (List.getElem?_eq_some_iff.mp q).1
        have oa : Own ρ σ a := ⟨i, _, q, h1⟩
        have P0 : SPost X.K ι H ρ σ S ι (upd H a (.frz od (.lst xs))) (ρ.set i (some (.val (.lst ds)))) σ := by
          refine ⟨(chg_up hH).1, (chg_up hH).2, fun b o e hb hob => ?_, fun b e => ?_, ⟨[], by simp, by simp⟩, fun b hb => .inl (own_set (ρ := ρ) (i := i) (o := some (.val (.lst ds))) (v := some (.ref a)) (fun _ q => by injection q with q; cases q) ?_), chg_st hS h3 hH, ?_⟩
          · rw [upd_ne (fun z : b = a => hob (by rw [z]; exact oa))]; exact e
          · by_cases z : b = a
            · subst z; rw [upd_same] at e; cases e
            · rw [upd_ne z] at e; exact e
          · have e2 : σ.set i (some (.ref a)) = σ := by
              apply List.ext_getElem?
              intro j
              by_cases z : i = j
              · subst z; rw [List.getElem?_set_self (by rw [← hE.len]; exact hl), h1]
              · rw [List.getElem?_set_ne z]
            rw [e2]; exact hb
          · refine ⟨by rw [List.length_set]; exact hE.len, fun j e hj => ?_, fun j e hj => ?_, fun j k d1 d2 b g1 g2 g3 g4 => ?_⟩
            · by_cases z : i = j
              · subst z
                rw [List.getElem?_set_self hl] at hj
                cases hj
                exact ⟨_, h1, .lst (.inl ⟨_, upd_same⟩) (hv.up (chg_up hH).1 (chg_up hH).2 fun _ _ q => q)⟩
              · rw [List.getElem?_set_ne z] at hj
                obtain ⟨v, k1, k2⟩ := hE.val j e hj
                exact ⟨v, k1, k2.up (chg_up hH).1 (chg_up hH).2 fun _ _ q => q⟩
            · by_cases z : i = j
              · subst z; rw [List.getElem?_set_self hl] at hj; cases hj
              · rw [List.getElem?_set_ne z] at hj
                obtain ⟨b, k1, ⟨es, ys, k2, k3, k4⟩, k5⟩ := hE.own j e hj
                have nb : b ≠ a := fun w => z (hE.dj i j _ e a q hj h1 (w ▸ k1))
                exact ⟨b, k1, ⟨es, ys, k2, by rw [upd_ne nb]; exact k3, k4.up (chg_up hH).1 (chg_up hH).2 fun _ _ q => q⟩, k5⟩
            · have n1 : i ≠ j := fun z => by subst z; rw [List.getElem?_set_self hl] at g1; cases g1
              have n2 : i ≠ k := fun z => by subst z; rw [List.getElem?_set_self hl] at g2; cases g2
              rw [List.getElem?_set_ne n1] at g1
              rw [List.getElem?_set_ne n2] at g2
              exact hE.dj j k d1 d2 b g1 g2 g3 g4
        exact h.run pins s σ _ W I2 ⟨_, S, ι, P0.env, P0.st, SOut.step P0 ho⟩

/-! ### for, while -/
theorem s_for {tg : List Nat} {src : It} {body : Ss} {tgE it : Expr} {sts : List Stmt} (hp : PassesOwn (model X.prog X.w) X.A X.env X.xe) (hc : X.calm = true) (hi : PI X tgE it (tI X.K G call src)) (hg : PG X tgE (gOf X.K tg))
    (hb : PSs X sts (tSs X.K G call body)) (hs : ∀ y, foldedSetIterable it X.env y = pure y) : PS X (.For tgE it sts [] pos) (tS X.K G call (.for_ tg src body)) :=
  (ps_for hp hc hi hg hb hs).im fun W σ H ⟨ρ, S, ι, hE, hS, ho⟩ => by
    obtain ⟨no, ho⟩ := SOut.guard (m := (evalIt G call ρ src).bind fun xs => Dv.guard (xs.length ≤ line) (forF (fun x ρ => (M.opt (put ρ tg x)).bind fun ρ' => execs G call body ρ') xs ρ)) ho
    obtain ⟨ds, S1, e1, k1⟩ := SOut.bind hE hS ho
    refine ⟨ρ, S, ι, hE, hS, ?_⟩
    rw [e1]
    intro ι1 H1 P1 J wt vi wk hw hv
    obtain ⟨gl, h2⟩ := (k1 ι1 H1 P1).guard
    have lenV := hv.length
    have watch : ∀ {S' : Store} {ι' : List Addr} {Hc : Hp} {ρ' : Env} {σ' : L2.St}, SPost X.K ι1 H1 ρ σ S' ι' Hc ρ' σ' → ∀ p ∈ wt, Hc p.1 = some p.2 := fun P p hp => P.keep _ _ (hw p hp).1 (hw p hp).2.1 ((hw p hp).2.2 no)
    have P0 : SPost X.K ι1 H1 ρ σ S1 ι1 H1 ρ σ := SPost.refl P1.st (hE.up P1)
    refine ⟨fun i m σc Hc => m = ds.length - i ∧ i ≤ ds.length ∧ ∃ ρ' S' ι', SPost X.K ι1 H1 ρ σ S' ι' Hc ρ' σc ∧
      SOut X.K ι1 H1 ρ σ (forF (fun x ρ => (M.opt (put ρ tg x)).bind fun ρ' => execs G call body ρ') (ds.drop i) ρ' S') W,
      ⟨ds.length, by simp, Nat.zero_le _, ρ, S1, ι1, P0, by simpa using h2⟩, ?_⟩
    rintro i m σc Hc ⟨rfl, hi, ρ', S', ι', P, hF⟩
    by_cases hlt : i < ds.length
    · right
      refine ⟨wk.go i Hc (watch P) (by rw [lenV]; exact hlt), fun σ' H' => ds.length - (i + 1) = ds.length - (i + 1) ∧ i + 1 ≤ ds.length ∧ ∃ ρ' S' ι', SPost X.K ι1 H1 ρ σ S' ι' H' ρ' σ' ∧
        SOut X.K ι1 H1 ρ σ (forF (fun x ρ => (M.opt (put ρ tg x)).bind fun ρ' => execs G call body ρ') (ds.drop (i + 1)) ρ' S') W, fun σ' H' h => ⟨_, by omega, h⟩, fun x H' y => ?_⟩
      obtain ⟨d, hd⟩ := get_lt hlt
      obtain ⟨u, hu, hr⟩ := hv.get hd
      have hrc : VIR X.K Hc ι' u d := by
        have up : ∀ {v : V} {e : D}, FV X.K H1 ι1 v e → FV X.K Hc ι' v e := fun f => f.up P.tups P.frzs (let ⟨more, e, _⟩ := P.pre; pre_get e)
        cases u with
        | one v => exact up hr
        | two v w => obtain ⟨a, b, e, r1, r2⟩ := hr; exact ⟨a, b, e, up r1, up r2⟩
      obtain ⟨fx, Pn⟩ := item_ok P.st hrc (show YldOk u x Hc H' from by have z := wk.yld i Hc x H' u (watch P) hu y; cases u <;> exact z)
      have P2 := P.trans (SPost.of Pn P.st P.env)
      rw [List.drop_eq_getElem_cons hlt] at hF
      have hdi : ds[i] = d := Option.some.inj ((List.getElem?_eq_getElem hlt).symm.trans hd)
      rw [hdi] at hF
      have hF : SOut X.K ι1 H1 ρ σ ((((M.opt (put ρ' tg d)).bind fun ρ' => execs G call body ρ').bind fun o => match o with
        | .nx ρ' => forF (fun x ρ => (M.opt (put ρ tg x)).bind fun ρ' => execs G call body ρ') (ds.drop (i + 1)) ρ'
        | .ct ρ' => forF (fun x ρ => (M.opt (put ρ tg x)).bind fun ρ' => execs G call body ρ') (ds.drop (i + 1)) ρ'
        | .brk ρ' => M.ret (.nx ρ')
        | .ret v => M.ret (.ret v)) S') W := hF
      cases q : put ρ' tg d with
      | none => rw [q] at hF; exact hF.elim
      | some ρ2 =>
        rw [q] at hF
        refine gOf_okS q P2 fx fun σ2 P3 => ⟨ρ2, S', ι', P3.env, P3.st, ?_⟩
        have hF : SOut X.K ι1 H1 ρ σ (((execs G call body ρ2).bind fun o => match o with
          | .nx ρ' => forF (fun x ρ => (M.opt (put ρ tg x)).bind fun ρ' => execs G call body ρ') (ds.drop (i + 1)) ρ'
          | .ct ρ' => forF (fun x ρ => (M.opt (put ρ tg x)).bind fun ρ' => execs G call body ρ') (ds.drop (i + 1)) ρ'
          | .brk ρ' => M.ret (.nx ρ')
          | .ret v => M.ret (.ret v)) S') W := hF
        unfold M.bind at hF
        cases e : execs G call body ρ2 S' with
        | stuck => rw [e] at hF; exact hF.elim
        | ok o S3 =>
          rw [e] at hF
          cases o with
          | nx ρ3 => exact fun ι3 H3 σ3 Q => ⟨rfl, hlt, ρ3, S3, ι3, P3.trans Q, hF⟩
          | ct ρ3 => exact fun ι3 H3 σ3 Q => ⟨rfl, hlt, ρ3, S3, ι3, P3.trans Q, hF⟩
          | brk ρ3 => exact fun ι3 H3 σ3 Q => hF ι3 H3 σ3 (P3.trans Q)
          | ret v => exact fun ι3 H3 v3 Q => hF ι3 H3 v3 (P3.ret Q)
    · left
      have e : i = ds.length := by omega
      subst e
      rw [List.drop_length] at hF
      exact ⟨wk.stop _ Hc (watch P) (by rw [lenV]; exact Nat.le_refl _), hF ι' Hc σc P⟩
theorem s_while {t : E} {body : Ss} {sts : List Stmt} (hp : PassesOwn (model X.prog X.w) X.A X.env X.xe) (ht : PT X x (tT X.K G call t)) (hb : PSs X sts (tSs X.K G call body)) : PS X (.While x sts [] pos) (tS X.K G call (.while_ t body)) :=
  (ps_while hp ht hb).im fun W σ H ⟨ρ, S, ι, hE, hS, ho⟩ => by
    refine ⟨fun m σc Hc => ∃ ρ' S' ι', EnvR X.K Hc ι' ρ' σc ∧ StR X.K Hc ι' S' ∧ SOut X.K ι' Hc ρ' σc (whileF (fun ρ => (evalE G call ρ t).bind fun x => asB x.1) (fun ρ => execs G call body ρ) m ρ' S') W,
      ⟨turns, ρ, S, ι, hE, hS, ho⟩, ?_⟩
    rintro m σc Hc ⟨ρ', S', ι', E', s', hF⟩
    cases m with
    | zero => exact hF.elim
    | succ m =>
      have hF : SOut X.K ι' Hc ρ' σc (((((evalE G call ρ' t).bind fun x => asB x.1)).bind fun k => if k then (execs G call body ρ').bind fun o => match o with
        | SR.nx ρ' => whileF (fun ρ => (evalE G call ρ t).bind fun x => asB x.1) (fun ρ => execs G call body ρ) m ρ'
        | SR.ct ρ' => whileF (fun ρ => (evalE G call ρ t).bind fun x => asB x.1) (fun ρ => execs G call body ρ) m ρ'
        | SR.brk ρ' => M.ret (.nx ρ')
        | SR.ret v => M.ret (.ret v)
        else M.ret (.nx ρ')) S') W := hF
      obtain ⟨k, S1, e1, k1⟩ := SOut.bind E' s' hF
      refine ⟨ρ', S', ι', E', s', ?_⟩
      rw [e1]
      intro ι1 H1 P1
      have h1 := k1 ι1 H1 P1
      have E1 := E'.up P1
      cases k with
      | false =>
        have h1 : SOut X.K ι1 H1 ρ' σc (M.ret (.nx ρ') S1) W := h1
        exact h1 ι1 H1 σc (SPost.refl P1.st E1)
      | true =>
        refine ⟨fun σ' H' => ∃ ρ'' S' ι', EnvR X.K H' ι' ρ'' σ' ∧ StR X.K H' ι' S' ∧ SOut X.K ι' H' ρ'' σ' (whileF (fun ρ => (evalE G call ρ t).bind fun x => asB x.1) (fun ρ => execs G call body ρ) m ρ'' S') W,
          fun σ' H' h => ⟨m, Nat.lt_succ_self m, h⟩, ρ', S1, ι1, E1, P1.st, ?_⟩
        have h1 : SOut X.K ι1 H1 ρ' σc (((execs G call body ρ').bind fun o => match o with
          | SR.nx ρ' => whileF (fun ρ => (evalE G call ρ t).bind fun x => asB x.1) (fun ρ => execs G call body ρ) m ρ'
          | SR.ct ρ' => whileF (fun ρ => (evalE G call ρ t).bind fun x => asB x.1) (fun ρ => execs G call body ρ) m ρ'
          | SR.brk ρ' => M.ret (.nx ρ')
          | SR.ret v => M.ret (.ret v)) S1) W := h1
        unfold M.bind at h1
        cases e : execs G call body ρ' S1 with
        | stuck => rw [e] at h1; exact h1.elim
        | ok o S3 =>
          rw [e] at h1
          cases o with
          | nx ρ3 => exact fun ι3 H3 σ3 Q => ⟨ρ3, S3, ι3, Q.env, Q.st, SOut.step Q h1⟩
          | ct ρ3 => exact fun ι3 H3 σ3 Q => ⟨ρ3, S3, ι3, Q.env, Q.st, SOut.step Q h1⟩
          | brk ρ3 => exact fun ι3 H3 σ3 Q => h1 ι3 H3 σ3 Q
          | ret v => exact fun ι3 H3 v3 Q => h1 ι3 H3 v3 Q

/-! ### an own list, an object of the store changed -/
theorem few1 {n : Nat} {x : Expr} {env : PySem.Env} {pos : Pos} (h : isStar x = false) : ((backTo pos (starEach [x] env)).all (fun x => !x.1) && (backToKw pos (keywordEach [] env)).all (fun x => x.1.isSome)
      && decide ([x].length + ([] : List Keyword).length + (if ([] : List Keyword).isEmpty then 0 else 1) < 30)) = true := by
  rw [star1 h]; rfl
theorem s_app {i : Nat} {n m : Str} {e : E} {p q cpos : Pos} (hN : X.N[i]? = some n) (hv : Vis X.env.scope n) (hd : (n == ("__debug__" : Str)) = false) (hcd : (n == ("__classdict__" : Str)) = false) (hm : m = "append")
    (he : PE X x (tD X.K G call e)) (hst : isStar x = false) (hl : (q.endLine == cpos.line) = true) : PS X (.Expr (.Call (.Attribute (.Name n p) m q) [x] [] cpos) pos) (tS X.K G call (.app i e)) := by
  subst hm
  have h1 : PE X (.Call (.Attribute (.Name n p) "append" q) [x] [] cpos) _ := pe_bm PySem.F.plainAttrs_list PySem.F.slot_list_append PySem.F.type_list_append mt_append (pe_var hN hv hd hcd) (pa_cons he pa_nil (star1 hst)) rfl (few1 (n := 0) hst) hl (star1 hst) rfl
  refine (ps_expr h1 rfl).im fun W σ H ⟨ρ, S, ι, hE, hS, ho⟩ => ?_
  have ho : SOut X.K ι H ρ σ (((ownOf ρ i).bind fun o => (asL o).bind fun xs => (evalE G call ρ e).bind fun y => Dv.guard (xs.length < line) (M.ret (.nx (ρ.set i (some (.own (.lst (xs ++ [y.1])))))))) S) W := ho
  cases r : ρ[i]? with
  | none => unfold ownOf at ho; rw [r] at ho; exact ho.elim
  | some o =>
    cases o with
    | none => unfold ownOf at ho; rw [r] at ho; exact ho.elim
    | some sl =>
      cases sl with
      | val d => unfold ownOf at ho; rw [r] at ho; exact ho.elim
      | own d =>
        obtain ⟨a, k1, ⟨ds, xs, e0, k2, k3⟩, k4⟩ := hE.own i d r
        subst e0
        unfold ownOf at ho; rw [r] at ho
        have ho : SOut X.K ι H ρ σ (((evalE G call ρ e).bind fun y => Dv.guard (ds.length < line) (M.ret (.nx (ρ.set i (some (.own (.lst (ds ++ [y.1])))))))) S) W := ho
        refine ⟨_, k1, Or.inl ⟨rfl, _, Or.inl (Or.inl k2)⟩, ?_⟩
        refine tD.goS hE hS ho fun y S1 ι1 H1 v P hv h1 => ?_
        obtain ⟨g, h1⟩ := h1.guard
        have k5 := P.keep _ _ k2 k4
        have k6 := P.upVs k3
        refine ⟨a, xs, v, rfl, rfl, k5, by rw [k3.length]; exact lt_line g, ?_⟩
        refine h1 ι1 _ _ (SPost.chgOwn P hS hE r k1 k5 (P.out k2 k4) ⟨_, _, rfl, upd_same, ?_⟩)
        exact (k6.append (.cons hv .nil)).up (chg_up k5).1 (chg_up k5).2 fun _ _ q => q
theorem asgSub {o i' : Expr} {v : Expr} {p : Pos} {te : TE} {to ti : TE} (he : PE X v te) (ho : PE X o to) (hi : PE X i' ti) (hsl : isSlice i' = false) : PS X (.Assign [.Subscript o i' p] v pos) (tAsg te (gSub to ti rSetL)) :=
  ps_asg he (pg_sub ho hi set_list (by intro w; cases i' <;> first | rfl | cases hsl)) (by cases v <;> rfl) (by cases v <;> rfl) rfl
theorem ixN_eq (n : Nat) (i : Int) : Dv.ixN n i = L2.ixN n i := rfl
theorem s_putI {i : Nat} {n : Str} {k e : E} {p q : Pos} (hN : X.N[i]? = some n) (hv : Vis X.env.scope n) (hd : (n == ("__debug__" : Str)) = false) (hcd : (n == ("__classdict__" : Str)) = false)
    (he : PE X x (tD X.K G call e)) (hk : PE X y (tD X.K G call k)) (hsl : isSlice y = false) : PS X (.Assign [.Subscript (.Name n p) y q] x pos) (tS X.K G call (.putI i k e)) := by
  refine (asgSub he (pe_var hN hv hd hcd) hk hsl).im fun W σ H ⟨ρ, S, ι, hE, hS, ho⟩ => ?_
  have ho : SOut X.K ι H ρ σ (((evalE G call ρ e).bind fun y => (ownOf ρ i).bind fun o => (asL o).bind fun xs => (evalE G call ρ k).bind fun kk => (asI kk.1).bind fun j =>
      (M.opt (Dv.ixN xs.length j)).bind fun p => M.ret (.nx (ρ.set i (some (.own (.lst (xs.set p y.1))))))) S) W := ho
  refine tD.goS hE hS ho fun y S1 ι1 H1 v P1 hv1 ho => ?_
  cases r : ρ[i]? with
  | none => unfold ownOf at ho; rw [r] at ho; exact ho.elim
  | some o =>
    cases o with
    | none => unfold ownOf at ho; rw [r] at ho; exact ho.elim
    | some sl =>
      cases sl with
      | val d => unfold ownOf at ho; rw [r] at ho; exact ho.elim
      | own d =>
        obtain ⟨a, k1, ⟨ds, xs, e0, k2, k3⟩, k4⟩ := hE.own i d r
        subst e0
        unfold ownOf at ho; rw [r] at ho
        have ho : SOut X.K ι H ρ σ (((evalE G call ρ k).bind fun kk => (asI kk.1).bind fun j => (M.opt (Dv.ixN ds.length j)).bind fun p => M.ret (.nx (ρ.set i (some (.own (.lst (ds.set p y.1))))))) S1) W := ho
        have ho := SOut.step (SPost.of P1 hS hE) ho
        refine ⟨_, k1, tD.goS (hE.up P1) P1.st ho fun kk S2 ι2 H2 w P2 hw h2 => ?_⟩
        obtain ⟨kk, b⟩ := kk
        cases kk with
        | int j =>
          cases hw
          have h2 : SOut X.K ι1 H1 ρ σ (((M.opt (Dv.ixN ds.length j)).bind fun p => M.ret (.nx (ρ.set i (some (.own (.lst (ds.set p y.1))))))) S2) W := h2
          cases e5 : Dv.ixN ds.length j with
          | none => rw [e5] at h2; exact h2.elim
          | some jj =>
            rw [e5] at h2
            have h2 : SOut X.K ι1 H1 ρ σ (M.ret (.nx (ρ.set i (some (.own (.lst (ds.set jj y.1)))))) S2) W := h2
            have PX := P1.trans P2
            have k5 := PX.keep _ _ k2 k4
            have k6 := PX.upVs k3
            refine ⟨a, xs, j, jj, rfl, rfl, k5, by rw [k3.length]; exact e5, ?_⟩
            have q := P1.upM (a := a) ⟨ds, xs, rfl, k2, k3⟩ k4
            refine h2 ι2 _ _ (SPost.chgOwn P2 P1.st (hE.up P1) r k1 k5 (PX.out k2 k4) ⟨_, _, rfl, upd_same, ?_⟩)
            exact (k6.set (P2.upV hv1) jj).up (chg_up k5).1 (chg_up k5).2 fun _ _ q => q
        | _ => exact h2.elim
/-- an object of the store is changed -/
theorem SPost.chgRef {K : PySem.W.Frag} {H H' : Hp} {ι ι' : List Addr} {S S' : Store} {ρ : Env} {σ : L2.St} (P : Post K ι H S' ι' H') (s : StR K H ι S) (E : EnvR K H ι ρ σ) {n : Nat} {a : Addr} {xs : List V} {o : HO} {d' : D} (hn : ι'[n]? = some a) (ha : H' a = some (.lst xs))
    (hin : a ∈ ι ∨ H a = none) (m : MOr K (upd H' a o) ι' a d') : SPost K ι H ρ σ (S'.set n d') ι' (upd H' a o) ρ σ := by
  have up := chg_up (o := o) ha
  have hS : StR K (upd H' a o) ι' (S'.set n d') := by
    refine ⟨by rw [List.length_set]; exact P.st.len, P.st.nd, fun k b d h1 h2 => ?_⟩
    by_cases q : n = k
    · subst q
      rw [hn] at h1
      cases h1
      rw [List.getElem?_set_self (by rw [← P.st.len]; exact (List.getElem?_eq_some_iff.mp hn).1)] at h2
      cases h2
      exact m
    · rw [List.getElem?_set_ne q] at h2
      obtain ⟨es, ys, e, hH, hw⟩ := P.st.obj k b d h1 h2
      have nb : b ≠ a := fun z => by
        subst z
        exact q (nodup_ixA P.st.nd hn h1)
      exact ⟨es, ys, e, by rw [upd_ne nb]; exact hH, hw.up up.1 up.2 fun _ _ q => q⟩
  refine ⟨fun b zs e => up.1 _ _ (P.tups b zs e), fun b o u e => up.2 _ _ _ (P.frzs b o u e), fun b u e h1 h2 => ?_, fun b e => ?_, P.pre, fun b h => .inl h, hS, ?_⟩
  · rw [upd_ne (fun z : b = a => by
      subst z
      rcases hin with z | z
      · exact h1 z
      · rw [z] at e; cases e)]
    exact P.keep b u e h1
  · by_cases q : b = a
    · subst q; rw [upd_same] at e; cases e
    · rw [upd_ne q] at e; exact P.back s e
  · have E' := E.up P
    have ai : a ∈ ι' := List.mem_of_getElem? hn
    refine ⟨E'.len, fun i d hi => ?_, fun i d hi => ?_, E'.dj⟩
    · obtain ⟨v, h1, h2⟩ := E'.val i d hi
      exact ⟨v, h1, h2.up up.1 up.2 fun _ _ q => q⟩
    · obtain ⟨b, h1, ⟨ds, ys, e, h2, h3⟩, h4⟩ := E'.own i d hi
      exact ⟨b, h1, ⟨ds, ys, e, by rw [upd_ne (fun z : b = a => h4 (by rw [z]; exact ai))]; exact h2, h3.up up.1 up.2 fun _ _ q => q⟩, h4⟩
theorem s_putR {a k e : E} {p : Pos} (he : PE X x (tD X.K G call e)) (ha : PE X z (tD X.K G call a)) (hk : PE X y (tD X.K G call k)) (hsl : isSlice y = false) : PS X (.Assign [.Subscript z y p] x pos) (tS X.K G call (.putR a k e)) := by
  refine (asgSub he ha hk hsl).im fun W σ H ⟨ρ, S, ι, hE, hS, ho⟩ => ?_
  have ho : SOut X.K ι H ρ σ (((evalE G call ρ e).bind fun y => (evalE G call ρ a).bind fun r => (evalE G call ρ k).bind fun kk => (asI kk.1).bind fun j => (objOf r.1).bind fun o => (asL o.2).bind fun xs =>
      Dv.guard (y.1.under o.1 = true) ((M.opt (Dv.ixN xs.length j)).bind fun p => (setO o.1 (.lst (xs.set p y.1))).bind fun _ => M.ret (.nx ρ))) S) W := ho
  refine tD.goS hE hS ho fun y S1 ι1 H1 v P1 hv1 ho => ?_
  have ho := SOut.step (SPost.of P1 hS hE) ho
  refine tD.goS (hE.up P1) P1.st ho fun r S2 ι2 H2 w P2 hw ho => ?_
  have ho := SOut.step (SPost.of P2 P1.st (hE.up P1)) ho
  have E2 := (hE.up P1).up P2
  refine tD.goS E2 P2.st ho fun kk S3 ι3 H3 u P3 hu h3 => ?_
  obtain ⟨kk, b⟩ := kk
  cases kk with
  | int j =>
    cases hu
    obtain ⟨r, b'⟩ := r
    cases r with
    | ref n =>
      have hw := P3.upV hw
      cases hw with
      | @ref _ ad hn =>
        have h3 : SOut X.K ι2 H2 ρ σ (((objOf (.ref n)).bind fun o => (asL o.2).bind fun xs => Dv.guard (y.1.under o.1 = true) ((M.opt (Dv.ixN xs.length j)).bind fun p => (setO o.1 (.lst (xs.set p y.1))).bind fun _ => M.ret (.nx ρ))) S3) W := h3
        cases e5 : S3[n]? with
        | none =>
          have : SOut X.K ι2 H2 ρ σ .stuck W := by
            have e : ((objOf (.ref n)).bind fun o => (asL o.2).bind fun xs => Dv.guard (y.1.under o.1 = true) ((M.opt (Dv.ixN xs.length j)).bind fun p => (setO o.1 (.lst (xs.set p y.1))).bind fun _ => M.ret (SR.nx ρ))) S3 = .stuck := by
              unfold objOf M.bind; dsimp only; rw [e5]
            rw [← e]; exact h3
          exact this.elim
        | some o =>
          obtain ⟨ds, xs, e6, k2, k3⟩ := P3.st.obj n ad o hn e5
          subst e6
          have h3 : SOut X.K ι2 H2 ρ σ ((Dv.guard (y.1.under n = true) ((M.opt (Dv.ixN ds.length j)).bind fun p => (setO n (.lst (ds.set p y.1))).bind fun _ => M.ret (SR.nx ρ))) S3) W := by
            have e : ((objOf (.ref n)).bind fun o => (asL o.2).bind fun xs => Dv.guard (y.1.under o.1 = true) ((M.opt (Dv.ixN xs.length j)).bind fun p => (setO o.1 (.lst (xs.set p y.1))).bind fun _ => M.ret (SR.nx ρ))) S3 =
                (Dv.guard (y.1.under n = true) ((M.opt (Dv.ixN ds.length j)).bind fun p => (setO n (.lst (ds.set p y.1))).bind fun _ => M.ret (SR.nx ρ))) S3 := by
              unfold objOf M.bind; dsimp only; rw [e5]; rfl
            rw [← e]; exact h3
          obtain ⟨g, h3⟩ := h3.guard
          cases e7 : Dv.ixN ds.length j with
          | none => rw [e7] at h3; exact h3.elim
          | some jj =>
            rw [e7] at h3
            have h3 : SOut X.K ι2 H2 ρ σ (.ok (.nx ρ) (S3.set n (.lst (ds.set jj y.1)))) W := h3
            refine ⟨ad, xs, j, jj, rfl, rfl, k2, by rw [k3.length]; exact e7, ?_⟩
            have hin : ad ∈ ι2 ∨ H2 ad = none := by
              obtain ⟨more, e8, hm⟩ := P3.pre
              have z := List.mem_of_getElem? hn
              rw [e8] at z
              exact (List.mem_append.mp z).imp id (hm ad)
            refine h3 ι3 _ σ (SPost.chgRef P3 P2.st E2 hn k2 hin ⟨_, _, rfl, upd_same, ?_⟩)
            exact (k3.set ((P2.trans P3).upV hv1) jj).up (chg_up k2).1 (chg_up k2).2 fun _ _ q => q
    | _ => exact h3.elim
  | _ => exact h3.elim
end
end Dv

set_option Elab.async false
set_option linter.all false
set_option maxRecDepth 100000
set_option maxHeartbeats 4000000
/-! Dv15: every statement of the small language is what its text does. -/
namespace Dv
open PySem PySem.Spec PyProof.Rows L2

/-- does the value's block end on the name's line (the store stands inside the block) -/
def swB (sc : Scope) (v : Expr) (y : Str) (py : Pos) : Bool := match v with
  | .ListComp _ _ scope p => (if sc.kind.isAnnotationScope then ScopeKind.function else sc.kind) == .function && sc.names.lookup y == some .local && py.line == p.line && !(scope.names.any fun (n, k) => n == y && (k == .local || k == .cell))
  | _ => false
def isComp : Expr → Bool
  | .ListComp .. => true
  | .SetComp .. => true
  | .DictComp .. => true
  | _ => false
def okSw (C : Cst) (v : Expr) (y : Str) (py : Pos) : Bool := match v with
  | .ListComp .. => !swB C.sc v y py || decide (C.sc.names.lookup y = some .local)
  | .SetComp .. => false
  | .DictComp .. => false
  | _ => true
def onAsg (st : Stmt) (f : Str → Pos → Expr → Bool) : Bool := match st with
  | .Assign ts v _ => (match ts with
    | [t] => (match t with
      | .Name y py => f y py v
      | _ => false)
    | _ => false)
  | _ => false
def onPut (st : Stmt) (f : Expr → Expr → Expr → Bool) : Bool := match st with
  | .Assign ts v _ => (match ts with
    | [t] => (match t with
      | .Subscript z y _ => f z y v
      | _ => false)
    | _ => false)
  | _ => false
def onExpr (st : Stmt) (f : Expr → Bool) : Bool := match st with
  | .Expr v _ => f v
  | _ => false
def onName (x : Expr) (f : Str → Bool) : Bool := match x with
  | .Name n _ => f n
  | _ => false
/-- x.m(y) -/
def onMeth (x : Expr) (f : Expr → Str → Expr → Bool) : Bool := match x with
  | .Call g xs ks p => (match g with
    | .Attribute o m q => (match xs with
      | [y] => (match ks with
        | [] => (q.endLine == p.line) && f o m y
        | _ => false)
      | _ => false)
    | _ => false)
  | _ => false
def onRet (st : Stmt) (f : Expr → Bool) : Bool := match st with
  | .Return v _ => (match v with
    | some v => f v
    | none => false)
  | _ => false
def isRetN (st : Stmt) : Bool := match st with
  | .Return v _ => (match v with
    | some _ => false
    | none => true)
  | _ => false
def onIf (st : Stmt) (f : Expr → List Stmt → List Stmt → Bool) : Bool := match st with
  | .If x a b _ => f x a b
  | _ => false
def onFor (st : Stmt) (f : Expr → Expr → List Stmt → Bool) : Bool := match st with
  | .For t it a b _ => (match b with
    | [] => f t it a
    | _ => false)
  | _ => false
def onWhile (st : Stmt) (f : Expr → List Stmt → Bool) : Bool := match st with
  | .While t a b _ => (match b with
    | [] => f t a
    | _ => false)
  | _ => false
def isPass : Stmt → Bool
  | .Pass _ => true
  | _ => false
def isBrk : Stmt → Bool
  | .Break _ => true
  | _ => false
def isCont : Stmt → Bool
  | .Continue _ => true
  | _ => false
def onCons (sts : List Stmt) (f : Stmt → List Stmt → Bool) : Bool := match sts with
  | s :: r => f s r
  | [] => false
def isFrz : Sm → Bool
  | .frz _ => true
  | _ => false
mutual
def trS (C : Cst) : Sm → Stmt → Bool
  | .set i e, st => onAsg st fun y py v => C.loc i y && (okSw C v y py && trE C e v)
  | .own i e, st => onAsg st fun y py v => C.loc i y && (okSw C v y py && trE C e v)
  | .sha i e, st => onAsg st fun y py v => C.loc i y && (okSw C v y py && trE C e v)
  | .putI i k e, st => onPut st fun z y v => onName z (C.var i) && (!isSlice y && (trE C k y && trE C e v))
  | .putR a k e, st => onPut st fun z y v => !isSlice y && (trE C a z && (trE C k y && trE C e v))
  | .app i e, st => onExpr st fun v => onMeth v fun o m y => onName o (C.var i) && (decide (m = "append") && (!isStar y && trE C e y))
  | .expr e, st => onExpr st fun v => !isComp v && trE C e v
  | .ret e, st => onRet st (trE C e)
  | .retN, st => isRetN st
  | .if_ t a b, st => onIf st fun x as bs => trE C t x && (trSs C a as && trSs C b bs)
  | .for_ tg src body, st => onFor st fun t it sts => trTg C tg t && (trIt C (isTup t) src it && (!isSet it && trSs C body sts))
  | .while_ t body, st => onWhile st fun x sts => trE C t x && trSs C body sts
  | .pass, st => isPass st
  | .brk, st => isBrk st
  | .cont, st => isCont st
  | .par _ _ _ _, _ => false
  | .tupS _ _, _ => false
  | .ins _ _ _, _ => false
  | .pop _ _ _, _ => false
  | .frz _, _ => false
def trSs (C : Cst) : Ss → List Stmt → Bool
  | .nil, sts => sts.isEmpty
  | .cons s r, sts => if isFrz s then trSs C r sts else onCons sts fun st rest => trS C s st && trSs C r rest
end
theorem onAsg_ok {st : Stmt} {f : Str → Pos → Expr → Bool} (h : onAsg st f = true) : ∃ y py v p, st = .Assign [.Name y py] v p ∧ f y py v = true := by
  unfold onAsg at h
  split at h
  · split at h
    · split at h
      · exact ⟨_, _, _, _, rfl, h⟩
      · cases h
    · cases h
  · cases h
theorem onPut_ok {st : Stmt} {f : Expr → Expr → Expr → Bool} (h : onPut st f = true) : ∃ z y v q p, st = .Assign [.Subscript z y q] v p ∧ f z y v = true := by
  unfold onPut at h
  split at h
  · split at h
    · split at h
      · exact ⟨_, _, _, _, _, rfl, h⟩
      · cases h
    · cases h
  · cases h
theorem onExpr_ok {st : Stmt} {f : Expr → Bool} (h : onExpr st f = true) : ∃ v p, st = .Expr v p ∧ f v = true := by
  unfold onExpr at h
  split at h
  · exact ⟨_, _, rfl, h⟩
  · cases h
theorem onName_ok {x : Expr} {f : Str → Bool} (h : onName x f = true) : ∃ n p, x = .Name n p ∧ f n = true := by
  unfold onName at h
  split at h
  · exact ⟨_, _, rfl, h⟩
  · cases h
theorem onMeth_ok {x : Expr} {f : Expr → Str → Expr → Bool} (h : onMeth x f = true) : ∃ o m q y p, x = .Call (.Attribute o m q) [y] [] p ∧ (q.endLine == p.line) = true ∧ f o m y = true := by
  unfold onMeth at h
  split at h
  · split at h
    · split at h
      · split at h
        · exact ⟨_, _, _, _, _, rfl, Bool.and_eq_true_iff.mp h⟩
        · cases h
      · cases h
    · cases h
  · cases h
theorem onRet_ok {st : Stmt} {f : Expr → Bool} (h : onRet st f = true) : ∃ v p, st = .Return (some v) p ∧ f v = true := by
  unfold onRet at h
  split at h
  · split at h
    · exact ⟨_, _, rfl, h⟩
    · cases h
  · cases h
theorem isRetN_ok {st : Stmt} (h : isRetN st = true) : ∃ p, st = .Return none p := by
  unfold isRetN at h
  split at h
  · split at h
    · cases h
    · exact ⟨_, rfl⟩
  · cases h
theorem onIf_ok {st : Stmt} {f : Expr → List Stmt → List Stmt → Bool} (h : onIf st f = true) : ∃ x a b p, st = .If x a b p ∧ f x a b = true := by
  unfold onIf at h
  split at h
  · exact ⟨_, _, _, _, rfl, h⟩
  · cases h
theorem onFor_ok {st : Stmt} {f : Expr → Expr → List Stmt → Bool} (h : onFor st f = true) : ∃ t it a p, st = .For t it a [] p ∧ f t it a = true := by
  unfold onFor at h
  split at h
  · split at h
    · exact ⟨_, _, _, _, rfl, h⟩
    · cases h
  · cases h
theorem onWhile_ok {st : Stmt} {f : Expr → List Stmt → Bool} (h : onWhile st f = true) : ∃ t a p, st = .While t a [] p ∧ f t a = true := by
  unfold onWhile at h
  split at h
  · split at h
    · exact ⟨_, _, _, rfl, h⟩
    · cases h
  · cases h
theorem isPass_ok {st : Stmt} (h : isPass st = true) : ∃ p, st = .Pass p := by
  unfold isPass at h
  split at h
  · exact ⟨_, rfl⟩
  · cases h
theorem isBrk_ok {st : Stmt} (h : isBrk st = true) : ∃ p, st = .Break p := by
  unfold isBrk at h
  split at h
  · exact ⟨_, rfl⟩
  · cases h
theorem isCont_ok {st : Stmt} (h : isCont st = true) : ∃ p, st = .Continue p := by
  unfold isCont at h
  split at h
  · exact ⟨_, rfl⟩
  · cases h
theorem onCons_ok {sts : List Stmt} {f : Stmt → List Stmt → Bool} (h : onCons sts f = true) : ∃ s r, sts = s :: r ∧ f s r = true := by
  unfold onCons at h
  split at h
  · exact ⟨_, _, rfl, h⟩
  · cases h
section
variable {G : List D} {call : Nat → List D → M (D × Bool)} {lv : Nat}
theorem comp_inv {C : Cst} {e : E} {x : Expr} {gs : List Comprehension} {scope : Scope} {p : Pos} (h : trE C e (.ListComp x gs scope p) = true) : ∃ own elt tg src cond, e = .comp own elt tg src cond := by
  cases e with
  | comp own elt tg src cond => exact ⟨_, _, _, _, _, rfl⟩
  | isin a ts =>
    rcases ts with _ | ⟨t, _ | ⟨t2, r⟩⟩ <;> cases h
  | _ => cases h
theorem asg {X : Cx} {C : Cst} {i : Nat} {y : Str} {py spos : Pos} {v : Expr} {e : E} (g : Good G call lv X C) (h1 : C.loc i y = true) (h2 : okSw C v y py = true) (h3 : trE C e v = true) :
    PS X (.Assign [.Name y py] v spos) (tAsg (tE X.K G call e) (gName i)) := by
  obtain ⟨l1, l2, l3⟩ := g.loc h1
  have nd : X.N.Nodup := by rw [g.n]; exact g.nd
  by_cases q : swB C.sc v y py = true
  · match v, q, h2, h3 with
    | .ListComp x gs scope p, q, h2, h3 =>
      obtain ⟨own, elt, tg, src, cond, rfl⟩ := comp_inv h3
      match gs, h3 with
      | [⟨t, it, ifs, k⟩], h =>
        obtain ⟨h1, h2'⟩ := and_t h
        obtain ⟨h2', h3⟩ := and_t h2'
        obtain ⟨h3, h4⟩ := and_t h3
        obtain ⟨h4, h5⟩ := and_t h4
        obtain ⟨h5, h6⟩ := and_t h5
        obtain ⟨h6, h7⟩ := and_t h6
        obtain ⟨h7, h8⟩ := and_t h7
        obtain ⟨h8, h9⟩ := and_t h8
        have e : k = 0 := of_decide_eq_true h1
        subst e
        have hyl : X.env.scope.names.lookup y = some .local := by
          rw [g.sc]
          have h2 : (!swB C.sc (.ListComp x [⟨t, it, ifs, 0⟩] scope p) y py || decide (C.sc.names.lookup y = some .local)) = true := h2
          rw [q] at h2
          simpa using h2
        have sw : swapsWith (.ListComp x [⟨t, it, ifs, 0⟩] scope p) (some (.Name y py)) spos.line X.env = pure true := by
          have z : swapsWith (.ListComp x [⟨t, it, ifs, 0⟩] scope p) (some (.Name y py)) spos.line X.env = pure (swB X.env.scope (.ListComp x [⟨t, it, ifs, 0⟩] scope p) y py) := rfl
          rw [z, g.sc, q]
        have own_e := of_decide_eq_true h3
        have ps := ps_setLc (X := X) (spos := spos) (wi := tI X.K G call src) (g := gOf X.K tg) (tt := tB X.K G call cond) (te := tD X.K G call elt) g.calm nd l1 hyl sw (sIt src g t h6 (fun q => q)) (by rw [g.n, g.sc]; exact blkOk_by h2')
          (fun s H c cl fp => pg_of (g.blkG s H c cl fp scope) h4) (fun s H c cl fp => c_conds (sCo cond (g.blkG s H c cl fp scope) h7)) (fun s H c cl fp => peD (sE elt (g.blkG s H c cl fp scope) h9).1) (notSet (not_t h8) _)
        refine ps.im fun W σ H q => ?_
        have q := c_compR (G := G) (call := call) (X := X) (own := own) (tg := tg) (elt := elt) (src := src) (cond := cond) (fun j hj => by simpa using List.all_eq_true.mp h5 j hj) σ H _ q
        rw [← own_e] at q
        exact q
  · have sw : swapsWith v (some (.Name y py)) spos.line X.env = pure false := by
      have q : swB X.env.scope v y py = false := by rw [g.sc]; simpa using q
      cases v with
      | ListComp x gs scope p =>
        have z : swapsWith (.ListComp x gs scope p) (some (.Name y py)) spos.line X.env = pure (swB X.env.scope (.ListComp x gs scope p) y py) := rfl
        rw [z, q]
      | SetComp => cases h2
      | DictComp => cases h2
      | _ => rfl
    exact ps_set nd l1 l2 (sE e g h3).1 sw l3
theorem noSw {v : Expr} (h : isComp v = false) (l : Nat) (env : PySem.Env) : swapsWith v none l env = pure false := by
  cases v <;> first | rfl | cases h
mutual
theorem sS : ∀ (s : Sm) {X : Cx} {C : Cst} {st : Stmt}, Good G call lv X C → PassesOwn (model X.prog X.w) X.A X.env X.xe → trS C s st = true → PS X st (tS X.K G call s)
  | .set i e, X, C, st, g, hx, h => by
    obtain ⟨y, py, v, p, rfl, h⟩ := onAsg_ok h
    obtain ⟨h1, h2⟩ := and_t h
    obtain ⟨h2, h3⟩ := and_t h2
    exact s_set (asg g h1 h2 h3)
  | .own i e, X, C, st, g, hx, h => by
    obtain ⟨y, py, v, p, rfl, h⟩ := onAsg_ok h
    obtain ⟨h1, h2⟩ := and_t h
    obtain ⟨h2, h3⟩ := and_t h2
    exact s_own (asg g h1 h2 h3)
  | .sha i e, X, C, st, g, hx, h => by
    obtain ⟨y, py, v, p, rfl, h⟩ := onAsg_ok h
    obtain ⟨h1, h2⟩ := and_t h
    obtain ⟨h2, h3⟩ := and_t h2
    exact s_sha (asg g h1 h2 h3)
  | .putI i k e, X, C, st, g, hx, h => by
    obtain ⟨z, y, v, q, p, rfl, h⟩ := onPut_ok h
    obtain ⟨h1, h2⟩ := and_t h
    obtain ⟨h2, h3⟩ := and_t h2
    obtain ⟨h3, h4⟩ := and_t h3
    obtain ⟨n, p', rfl, h1⟩ := onName_ok h1
    obtain ⟨v1, v2, v3, v4⟩ := g.var h1
    exact s_putI v1 v2 v3 v4 (peD (sE e g h4).1) (peD (sE k g h3).1) (not_t h2)
  | .putR a k e, X, C, st, g, hx, h => by
    obtain ⟨z, y, v, q, p, rfl, h⟩ := onPut_ok h
    obtain ⟨h1, h2⟩ := and_t h
    obtain ⟨h2, h3⟩ := and_t h2
    obtain ⟨h3, h4⟩ := and_t h3
    exact s_putR (peD (sE e g h4).1) (peD (sE a g h2).1) (peD (sE k g h3).1) (not_t h1)
  | .app i e, X, C, st, g, hx, h => by
    obtain ⟨v, p, rfl, h⟩ := onExpr_ok h
    obtain ⟨o, m, q, y, p2, rfl, hl, h⟩ := onMeth_ok h
    obtain ⟨h1, h2⟩ := and_t h
    obtain ⟨h2, h3⟩ := and_t h2
    obtain ⟨h3, h4⟩ := and_t h3
    obtain ⟨n, p', rfl, h1⟩ := onName_ok h1
    obtain ⟨v1, v2, v3, v4⟩ := g.var h1
    exact s_app v1 v2 v3 v4 (of_decide_eq_true h2) (peD (sE e g h4).1) (not_t h3) hl
  | .expr e, X, C, st, g, hx, h => by
    obtain ⟨v, p, rfl, h⟩ := onExpr_ok h
    obtain ⟨h1, h2⟩ := and_t h
    exact s_expr (sE e g h2).1 (noSw (not_t h1) _ _)
  | .ret e, X, C, st, g, hx, h => by
    obtain ⟨v, p, rfl, h⟩ := onRet_ok h
    by_cases q : ∃ i, e = .var i
    · obtain ⟨i, rfl⟩ := q
      match v, h with
      | .Name n _, h =>
        obtain ⟨v1, v2, v3, v4⟩ := g.var h
        exact s_retV v1 v2 v3 v4
    · exact s_ret (fun i z => q ⟨i, z⟩) (sE e g h).1
  | .retN, X, C, st, g, hx, h => by
    obtain ⟨p, rfl⟩ := isRetN_ok h
    exact s_retN
  | .if_ t a b, X, C, st, g, hx, h => by
    obtain ⟨x, as, bs, p, rfl, h⟩ := onIf_ok h
    obtain ⟨h1, h2⟩ := and_t h
    obtain ⟨h2, h3⟩ := and_t h2
    exact s_if (sE t g h1).2 (sSs a g hx h2) (sSs b g hx h3)
  | .for_ tg src body, X, C, st, g, hx, h => by
    obtain ⟨t, it, sts, p, rfl, h⟩ := onFor_ok h
    obtain ⟨h1, h2⟩ := and_t h
    obtain ⟨h2, h3⟩ := and_t h2
    obtain ⟨h3, h4⟩ := and_t h3
    exact s_for hx g.calm (sIt src g t h2 (fun q => q)) (pg_of g h1) (sSs body g hx h4) (notSet (not_t h3) _)
  | .while_ t body, X, C, st, g, hx, h => by
    obtain ⟨x, sts, p, rfl, h⟩ := onWhile_ok h
    obtain ⟨h1, h2⟩ := and_t h
    exact s_while hx (sE t g h1).2 (sSs body g hx h2)
  | .pass, X, C, st, g, hx, h => by
    obtain ⟨p, rfl⟩ := isPass_ok h
    exact s_pass
  | .brk, X, C, st, g, hx, h => by
    obtain ⟨p, rfl⟩ := isBrk_ok h
    exact s_brk
  | .cont, X, C, st, g, hx, h => by
    obtain ⟨p, rfl⟩ := isCont_ok h
    exact s_cont
  | .par _ _ _ _, X, C, st, g, hx, h => by cases h
  | .tupS _ _, X, C, st, g, hx, h => by cases h
  | .ins _ _ _, X, C, st, g, hx, h => by cases h
  | .pop _ _ _, X, C, st, g, hx, h => by cases h
  | .frz _, X, C, st, g, hx, h => by cases h
theorem sSs : ∀ (ss : Ss) {X : Cx} {C : Cst} {sts : List Stmt}, Good G call lv X C → PassesOwn (model X.prog X.w) X.A X.env X.xe → trSs C ss sts = true → PSs X sts (tSs X.K G call ss)
  | .nil, X, C, sts, g, hx, h => by
    cases sts with
    | nil => exact ss_nil
    | cons a b => cases h
  | .cons s r, X, C, sts, g, hx, h => by
    have h : (if isFrz s then trSs C r sts else onCons sts fun st rest => trS C s st && trSs C r rest) = true := h
    by_cases q : isFrz s = true
    · rw [if_pos q] at h
      have e : ∃ i, s = .frz i := by
        unfold isFrz at q
        split at q
        · exact ⟨_, rfl⟩
        · cases q
      obtain ⟨i, rfl⟩ := e
      exact ss_frz (sSs r g hx h)
    · rw [if_neg q] at h
      obtain ⟨st, rest, rfl, h⟩ := onCons_ok h
      obtain ⟨h1, h2⟩ := and_t h
      exact ss_cons (sS s g hx h1) (sSs r g hx h2)
end
end
end Dv

set_option Elab.async false
set_option linter.all false
set_option maxRecDepth 100000
set_option maxHeartbeats 1000000
/-! Dv16: the defs, by their fuel. -/
namespace Dv
open PySem PySem.Spec PyProof.Rows L2

/-- a def of the text, as the small language has it -/
structure Row where
  x : Str
  st : Stmt
  N : List Str
  ps : List Str
structure Tab where
  rows : List Row
  fns : List Fn
  shp : List Shp
  cfs : List Cf
  gls : List Str
  frees : List Str
def Tab.cst (t : Tab) (r : Row) : Cst := ⟨r.N, C8.fnScope r.st, fun _ => true, t.shp, t.gls, t.frees⟩
def Tab.okRow (t : Tab) (r : Row) (f : Fn) : Bool :=
  decide (f.np = r.ps.length) && (decide (f.ns = r.N.length) && (C8.scC r.N r.ps (C8.fnScope r.st) && trSs (t.cst r) f.body (C8.fnBody r.st)))
def Tab.okRows (t : Tab) : List Row → List Fn → Bool
  | [], [] => true
  | r :: rs, f :: fs => t.okRow r f && Tab.okRows t rs fs
  | _, _ => false
def okShps (rows : List Row) : List Shp → List Cf → Bool
  | [], [] => true
  | s :: ss, c :: cs => decide ((rows[c.f]?).map (·.x) = some s.x) && (decide (c.kw = !s.ks.isEmpty) && okShps rows ss cs)
  | _, _ => false
def Tab.ok (t : Tab) : Bool := t.okRows t.rows t.fns && okShps t.rows t.shp t.cfs
section
variable {P : Program} {w : World} {K : PySem.W.Frag} {mg : Str → Option Value} {base : Heap}
structure DefOk (K : PySem.W.Frag) (mg : Str → Option Value) (t : Tab) (i : Nat) (r : Row) : Prop where
  ex : ∃ f fd, C8.Def K mg r.x r.st f fd ∧ Binds K fd r.ps [] ∧ ∀ (j : Nat) (s : Shp) (c : Cf), t.shp[j]? = some s → t.cfs[j]? = some c → c.f = i → s.ks ≠ [] → KBn K fd r.ps s.n s.ks (fun us ws => pick c.src (us ++ ws)) (fun us ws => pick c.src (us ++ ws))
theorem rows_get {t : Tab} : ∀ {rs : List Row} {fs : List Fn}, t.okRows rs fs = true → ∀ {i : Nat} {f : Fn}, fs[i]? = some f → ∃ r, rs[i]? = some r ∧ t.okRow r f = true
  | [], [], _, i, f, e => by simp at e
  | r :: rs, f :: fs, h, 0, g, e => by
    cases e
    exact ⟨r, rfl, (and_t h).1⟩
  | r :: rs, f :: fs, h, i + 1, g, e => rows_get (rs := rs) (fs := fs) (and_t h).2 e
  | [], _ :: _, h, _, _, _ => nomatch h
  | _ :: _, [], h, _, _, _ => nomatch h
theorem shps_get {rows : List Row} : ∀ {ss : List Shp} {cs : List Cf}, okShps rows ss cs = true → ∀ {i : Nat} {s : Shp}, ss[i]? = some s → ∃ c r, cs[i]? = some c ∧ rows[c.f]? = some r ∧ r.x = s.x ∧ c.kw = !s.ks.isEmpty
  | [], [], _, i, f, e => by simp at e
  | s :: ss, c :: cs, h, 0, g, e => by
    cases e
    obtain ⟨h1, h2⟩ := and_t h
    obtain ⟨h2, h3⟩ := and_t h2
    have z : (rows[c.f]?).map (·.x) = some s.x := of_decide_eq_true h1
    cases q : rows[c.f]? with
    | none => rw [q] at z; cases z
    | some r =>
      rw [q] at z
      exact ⟨c, r, rfl, q, Option.some.inj z, of_decide_eq_true h2⟩
  | s :: ss, c :: cs, h, i + 1, g, e => shps_get (ss := ss) (cs := cs) (and_t (and_t h).2).2 e
  | [], _ :: _, h, _, _, _ => nomatch h
  | _ :: _, [], h, _, _, _ => nomatch h
theorem FVs.pick {H : Hp} {ι : List Addr} {vs : List V} {ds : List D} (h : FVs K H ι vs ds) : ∀ src : List Nat, FVs K H ι (Dv.pick src vs) (Dv.pick src ds)
  | [] => .nil
  | i :: src => by
    have ih := FVs.pick h src
    unfold Dv.pick at ih ⊢
    rw [List.filterMap_cons, List.filterMap_cons]
    cases q : ds[i]? with
    | none =>
      have z : vs[i]? = none := by
        rw [List.getElem?_eq_none_iff] at q ⊢
        rw [h.length]; exact q
      rw [z]; exact ih
    | some d =>
      obtain ⟨v, hv, hr⟩ := h.get q
      rw [hv]
      exact .cons hr ih
theorem FVs.mapE {H : Hp} {ι : List Addr} {vs : List V} {ds : List D} (h : FVs K H ι vs ds) : ∀ (i : Nat), i < vs.length → ∃ v d, vs[i]? = some v ∧ ds[i]? = some d ∧ FV K H ι v d := fun i hi => by
  obtain ⟨d, hd⟩ := get_lt (show i < ds.length by rw [← h.length]; exact hi)
  obtain ⟨v, hv, hr⟩ := h.get hd
  exact ⟨v, d, hv, hd, hr⟩
theorem env_start {H : Hp} {ι : List Addr} {vs : List V} {ds : List D} {N : List Str} {n : Nat} (h : FVs K H ι vs ds) (hn : n = N.length) :
    EnvR K H ι (ds.map (fun d => some (Sl.val d)) ++ List.replicate (n - ds.length) none) (L2.start N vs) := by
  subst hn
  have hl := h.length
  refine ⟨by simp [L2.start, hl], fun i d e => ?_, fun i d e => ?_, fun i j d e a h1 => ?_⟩
  · by_cases q : i < ds.length
    · rw [List.getElem?_append_left (by simpa using q)] at e
      rw [List.getElem?_map] at e
      obtain ⟨d', hd⟩ := get_lt q
      rw [hd] at e
      cases e
      obtain ⟨v, hv, hr⟩ := h.get hd
      refine ⟨v, ?_, hr⟩
      unfold L2.start
      rw [List.getElem?_append_left (by simp [hl]; exact q), List.getElem?_map, hv]
      rfl
    · rw [List.getElem?_append_right (by simpa using q)] at e
      rw [List.getElem?_replicate] at e
      split at e <;> cases e
  · by_cases q : i < ds.length
    · rw [List.getElem?_append_left (by simpa using q)] at e
      rw [List.getElem?_map] at e
      obtain ⟨d', hd⟩ := get_lt q
      rw [hd] at e
      cases e
    · rw [List.getElem?_append_right (by simpa using q)] at e
      rw [List.getElem?_replicate] at e
      split at e <;> cases e
  · by_cases q : i < ds.length
    · rw [List.getElem?_append_left (by simpa using q)] at h1
      rw [List.getElem?_map] at h1
      obtain ⟨d', hd⟩ := get_lt q
      rw [hd] at h1
      cases h1
    · rw [List.getElem?_append_right (by simpa using q)] at h1
      rw [List.getElem?_replicate] at h1
      split at h1 <;> cases h1
theorem start_own {ds : List D} {n : Nat} {σ : L2.St} {a : Addr} : ¬ Own (ds.map (fun d => some (Sl.val d)) ++ List.replicate n none) σ a := fun ⟨i, d, e, _⟩ => by
  by_cases q : i < ds.length
  · rw [List.getElem?_append_left (by simpa using q), List.getElem?_map] at e
    obtain ⟨d', hd⟩ := get_lt q
    rw [hd] at e
    cases e
  · rw [List.getElem?_append_right (by simpa using q), List.getElem?_replicate] at e
    split at e <;> cases e
theorem fn_ok {G : List D} {t : Tab} (hT : t.ok = true) (hD : ∀ (i : Nat) (r : Row), t.rows[i]? = some r → DefOk K mg t i r) (kl : KL K) (hfree : ∀ x ∈ t.frees, mg x = none)
    (hglob : ∀ (i : Nat) (x : Str), t.gls[i]? = some x → ∃ u v d, mg x = some u ∧ RelV v u ∧ G[i]? = some d ∧ ∀ H ι, FV K H ι v d) :
    ∀ (n i : Nat) (r : Row), t.rows[i]? = some r → ∀ f fd, C8.Def K mg r.x r.st f fd → FnOk P w K mg base CX0 n f fd r.ps (spF K (callF G t.fns t.cfs n) i)
  | 0, i, r, hr, f, fd, df => ⟨fun vs H Q E ⟨ds, S, ι, _, _, ho⟩ => ho.elim, fun A outer s H args us vs Q E _ _ _ _ ⟨ds, S, ι, _, _, ho⟩ => ho.elim⟩
  | n + 1, i, r, hr, f, fd, df => by
    have ih := fn_ok hT hD kl hfree hglob n
    obtain ⟨hR, hS⟩ := and_t hT
    cases eF : t.fns[i]? with
    | none =>
      have bad : ∀ ds S, callF G t.fns t.cfs (n + 1) i ds S = .stuck := fun ds S => by
        show (M.opt t.fns[i]?).bind _ S = .stuck
        rw [eF]; rfl
      exact ⟨fun vs H Q E ⟨ds, S, ι, _, _, ho⟩ => by rw [bad] at ho; exact ho.elim, fun A outer s H args us vs Q E _ _ _ _ ⟨ds, S, ι, _, _, ho⟩ => by rw [bad] at ho; exact ho.elim⟩
    | some fn =>
      obtain ⟨r', hr', ok⟩ := rows_get hR eF
      rw [hr] at hr'
      cases hr'
      obtain ⟨o1, ok⟩ := and_t ok
      obtain ⟨o2, ok⟩ := and_t ok
      obtain ⟨o3, o4⟩ := and_t ok
      have np : fn.np = r.ps.length := of_decide_eq_true o1
      have ns : fn.ns = r.N.length := of_decide_eq_true o2
      have unf : ∀ ds S, callF G t.fns t.cfs (n + 1) i ds S = body G (callS G t.fns t.cfs n) fn ds S := fun ds S => by
        show (M.opt t.fns[i]?).bind _ S = _
        rw [eF]; rfl
      have sc := C8.fnScope_by o3
      refine C8.fn0 df.fn sc (fun vs H Q E ⟨ds, S, ι, hv, _, ho⟩ => ?_) fun cdv A outer s H vs Q E hroom ⟨ds, S, ι, hv, hS', ho⟩ => ?_
      · rw [unf] at ho
        obtain ⟨g1, _⟩ := Out.guard ho
        rw [hv.length, g1, np]
      · rw [unf] at ho
        obtain ⟨g1, ho⟩ := Out.guard ho
        refine ⟨tSs K G (callS G t.fns t.cfs n) fn.body, ?_, ?_⟩
        · refine sSs (lv := n) (X := (cxOf CX0 P w K mg base r.N r.x (C8.fnScope r.st) f cdv A outer s H E).nox) (C := t.cst r) fn.body ⟨rfl, sc.nd, rfl, rfl, kl, fun _ _ => rfl, hroom, hfree, fun j s hx => ?_, hglob⟩ .never o4
          have hx : t.shp[j]? = some s := hx
          obtain ⟨c, r2, e1, e2, e3, e4⟩ := shps_get hS hx
          obtain ⟨f2, fd2, df2, b2, kb2⟩ := (hD c.f r2 e2).ex
          refine ⟨f2, fd2, r2.ps, _, ih c.f r2 e2 f2 fd2 df2, by rw [← e3]; exact df2.mgf, df2.kp, fun z => ?_, fun z => ?_⟩
          · refine ⟨[], [], b2, .nil, fun vs H Q ⟨ds, S, ι, h1, h2, h3⟩ => ?_⟩
            rw [List.append_nil]
            refine ⟨ds, S, ι, h1, h2, ?_⟩
            have u : callS G t.fns t.cfs n j ds S = callF G t.fns t.cfs n c.f ds S := by
              show (M.opt t.cfs[j]?).bind _ S = _
              rw [e1]
              show callF G t.fns t.cfs n c.f (if c.kw then pick c.src ds else ds) S = _
              rw [e4, z]; rfl
            rw [← u]; exact h3
          · refine ⟨_, _, kb2 j s c hx e1 rfl z, fun vs zs H Q l1 l2 ⟨ds, S, ι, h1, h2, h3⟩ => ?_⟩
            refine ⟨pick c.src ds, S, ι, h1.pick c.src, h2, ?_⟩
            have u : callS G t.fns t.cfs n j ds S = callF G t.fns t.cfs n c.f (pick c.src ds) S := by
              show (M.opt t.cfs[j]?).bind _ S = _
              rw [e1]
              show callF G t.fns t.cfs n c.f (if c.kw then pick c.src ds else ds) S = _
              rw [e4]
              cases q : s.ks with
              | nil => exact absurd q z
              | cons a b => rfl
            rw [← u]; exact h3
        · have hl : ds.length = fn.np := g1
          refine ⟨_, S, ι, env_start (n := fn.ns) hv ns, hS', ?_⟩
          rw [hl]
          cases e3 : execs G (callS G t.fns t.cfs n) fn.body (ds.map (fun d => some (Sl.val d)) ++ List.replicate (fn.ns - fn.np) none) S with
          | stuck =>
            have : Out K ι H ((execs G (callS G t.fns t.cfs n) fn.body (ds.map (fun d => some (Sl.val d)) ++ List.replicate (fn.ns - fn.np) none)).bind _ S) _ := ho
            unfold M.bind at this
            rw [e3] at this
            exact this.elim
          | ok o S2 =>
            have this : Out K ι H ((execs G (callS G t.fns t.cfs n) fn.body (ds.map (fun d => some (Sl.val d)) ++ List.replicate (fn.ns - fn.np) none)).bind _ S) _ := ho
            unfold M.bind at this
            rw [e3] at this
            cases o with
            | ret x =>
              intro ι' H' v P'
              refine this ι' H' ⟨P'.tups, P'.frzs, fun b o e1 e2 => P'.keep b o e1 e2 start_own, P'.pre, P'.st⟩ v ?_
              have z := P'.val
              unfold VR
              cases e4 : x.2 with
              | true =>
                rw [e4] at z
                obtain ⟨a, e5, e6, e7, e8⟩ := z
                exact ⟨a, e5, e6.resolve_left start_own, e7, e8⟩
              | false => rw [e4] at z; exact z
            | nx ρ' =>
              intro ι' H' σ' P'
              exact this ι' H' ⟨P'.tups, P'.frzs, fun b o e1 e2 => P'.keep b o e1 e2 start_own, P'.pre, P'.st⟩ .non (show FV K H' ι' .non .non from .non)
            | brk ρ' => exact this.elim
            | ct ρ' => exact this.elim
end
end Dv

set_option Elab.async false
set_option linter.all false
set_option maxRecDepth 100000
set_option maxHeartbeats 1000000
/-! Dv17: the head. -/
namespace Dv
open PySem PySem.Spec PyProof.Rows L2

def klB (K : PySem.W.Frag) : Bool := K.all fun p => decide (p.2.cls ≠ .type "list") || p.2.slots.isEmpty
theorem look_mem {α β : Type} [BEq α] [LawfulBEq α] (a : α) (o : β) : ∀ K : List (α × β), K.lookup a = some o → (a, o) ∈ K
  | [], h => by simp at h
  | p :: r, h => by
    rw [List.lookup_cons] at h
    cases q : a == p.1 with
    | true =>
      rw [q] at h
      have e : p.2 = o := Option.some.inj h
      rw [← e, beq_iff_eq.mp q]
      exact List.mem_cons_self
    | false =>
      rw [q] at h
      exact List.mem_cons_of_mem _ (look_mem a o r h)
theorem klB_ok {K : PySem.W.Frag} (h : klB K = true) : KL K := fun a o e c => by
  have m : (a, o) ∈ K := look_mem a o K e
  have z := List.all_eq_true.mp h (a, o) m
  rcases Bool.or_eq_true_iff.mp z with z | z
  · exact absurd c (of_decide_eq_true z)
  · exact Array.isEmpty_iff.mp z
/-- what is asked of the top's end -/
abbrev AlK : Type := Bool × He.AlD
def obsK (fa : List He.Fa) (fn : List He.DefD) (K : PySem.W.Frag) : AlK := (klB K, He.obsD fa fn K)
def obsKG (n : Nat) (fa : List He.Fa) (fn : List He.DefD) (g : Addr → Option Obj) : AlK := obsK fa fn (He.frG g (He.asD g n))
def hookK (n : Nat) (fa : List He.Fa) (fn : List He.DefD) : PySem.W.Hook where
  α := AlK
  obs := fun s => obsKG n fa fn s.heap.get?
  val := fun _ => (true, He.valD fn)
  says := fun _ h => ∃ K : PySem.W.Frag, K.In h ∧ KL K ∧ He.SaysD fa fn K
  of := fun _ _ e => ⟨_, He.frG_in, klB_ok (congrArg (fun z : AlK => z.1) e), congrArg (fun z : AlK => z.2) e⟩
  keeps := fun _ _ _ ⟨K, hK, kl, c⟩ k => ⟨K, PySem.W.Frag.In.keeps hK k, kl, c⟩
theorem obsKG_eq {n : Nat} {fa : List He.Fa} {fn : List He.DefD} {g : Addr → Option Obj} {s : Shared} (h : ∀ a, g a = s.heap.get? a) : obsKG n fa fn g = (hookK n fa fn).obs s := by
  have e : g = s.heap.get? := funext h
  rw [e] <;> rfl

/-! ### the table's facts -/
def faOf (x : Str) : D → He.Fa
  | .int i => .int x i
  | .str s => .str x ⟨s.toArray⟩
  | _ => .glo x
def defOf (r : Row) : He.DefD := ⟨(r.x, none), r.x, r.x, C8.fnArgs r.st, C8.fnBody r.st, C8.fnScope r.st, [], []⟩
def Tab.facts (t : Tab) (gvs : List D) : List He.Fa := t.rows.map (fun r => .glo r.x) ++ (t.frees.map .free ++ List.zipWith faOf t.gls gvs)
def okGv : D → Bool
  | .int _ => true
  | .str s => s.all fun c => decide (c < 0x110000)
  | _ => false
def okGvs (gls : List Str) (gvs : List D) : Bool := decide (gls.length = gvs.length) && gvs.all okGv
theorem zip_get {α β γ : Type} {f : α → β → γ} : ∀ {xs : List α} {ys : List β} {i : Nat} {x : α} {y : β}, xs[i]? = some x → ys[i]? = some y → (List.zipWith f xs ys)[i]? = some (f x y)
  | a :: xs, b :: ys, 0, x, y, h1, h2 => by cases h1; cases h2; rfl
  | a :: xs, b :: ys, i + 1, x, y, h1, h2 => zip_get (xs := xs) (ys := ys) h1 h2
  | [], _, i, _, _, h1, _ => by simp at h1
  | _ :: _, [], i, _, _, _, h2 => by simp at h2
section
variable {K : PySem.W.Frag} {h : Heap} {mg : Str → Option Value} {t : Tab} {gvs : List D}
theorem fact_mem {fn : List He.DefD} {fa : List He.Fa} (c : He.SaysD fa fn K) {f : He.Fa} (m : f ∈ fa) : f.ok K = true := by
  obtain ⟨i, e⟩ := List.getElem?_of_mem m
  exact c.fact i e
theorem frees_ok (X : K.In h) (G : h.Ns mainGlobals mg) (c : He.SaysD (t.facts gvs) (t.rows.map defOf) K) : ∀ x ∈ t.frees, mg x = none := fun x hx =>
  He.free_ok X G (fact_mem c (List.mem_append_right _ (List.mem_append_left _ (List.mem_map_of_mem hx))))
theorem globs_ok (X : K.In h) (G : h.Ns mainGlobals mg) (c : He.SaysD (t.facts gvs) (t.rows.map defOf) K) (ok : okGvs t.gls gvs = true) :
    ∀ (i : Nat) (x : Str), t.gls[i]? = some x → ∃ u v d, mg x = some u ∧ RelV v u ∧ gvs[i]? = some d ∧ ∀ H ι, FV K H ι v d := fun i x hx => by
  obtain ⟨o1, o2⟩ := and_t ok
  have hl : i < gvs.length := by rw [← (of_decide_eq_true o1 : t.gls.length = gvs.length)]; exact (List.getElem?_eq_some_iff.mp hx).1
  obtain ⟨d, hd⟩ := get_lt hl
  have fc := fact_mem c (List.mem_append_right _ (List.mem_append_right _ (List.mem_of_getElem? (zip_get (f := faOf) hx hd))))
  have od := List.all_eq_true.mp o2 d (List.mem_of_getElem? hd)
  cases d with
  | int j =>
    obtain ⟨tk, e⟩ := He.int_ok X G fc
    exact ⟨_, .int j, .int j, e, ⟨tk, rfl⟩, hd, fun _ _ => .int j⟩
  | str s =>
    obtain ⟨tk, e⟩ := He.str_ok X G fc
    exact ⟨_, .str ⟨s.toArray⟩, .str s, e, ⟨tk, rfl⟩, hd, fun _ _ => .str s fun c hc => of_decide_eq_true (List.all_eq_true.mp od c hc)⟩
  | _ => cases od
/-- how the defs bind: by position; by the forms -/
structure RowB (t : Tab) (i : Nat) (r : Row) : Prop where
  pos : ∀ (kV doc pm : Value) (an : Option Addr) (cdv ct : Value) (us : List Value), us.length = r.ps.length → bindArgs (PySem.W.fnOf r.x r.x (C8.fnArgs r.st) (C8.fnBody r.st) (C8.fnScope r.st) .none kV doc pm an cdv ct) ⟨us, []⟩ = pure (r.ps.zip us)
  kw : ∀ (j : Nat) (s : Shp) (c : Cf), t.shp[j]? = some s → t.cfs[j]? = some c → c.f = i → s.ks ≠ [] → ∀ (kV doc pm : Value) (an : Option Addr) (cdv ct : Value) (us ws : List Value), us.length = s.n → ws.length = s.ks.length →
    bindArgs (PySem.W.fnOf r.x r.x (C8.fnArgs r.st) (C8.fnBody r.st) (C8.fnScope r.st) .none kV doc pm an cdv ct) ⟨us, s.ks.zip ws⟩ = pure (r.ps.zip (pick c.src (us ++ ws)))
theorem Vals.pick {vs : List V} {us : List Value} (h : Vals vs us) : ∀ src : List Nat, Vals (Dv.pick src vs) (Dv.pick src us)
  | [] => .nil
  | i :: src => by
    have ih := Vals.pick h src
    unfold Dv.pick at ih ⊢
    rw [List.filterMap_cons, List.filterMap_cons]
    cases q : vs[i]? with
    | none =>
      have z : us[i]? = none := by
        rw [List.getElem?_eq_none_iff] at q ⊢
        rw [← h.length]; exact q
      rw [z]; exact ih
    | some v =>
      obtain ⟨u, hu, hr⟩ := h.get q
      rw [hu]
      exact .cons hr ih
theorem rows_ok (X : K.In h) (G : h.Ns mainGlobals mg) (c : He.SaysD (t.facts gvs) (t.rows.map defOf) K) (hb : ∀ (i : Nat) (r : Row), t.rows[i]? = some r → RowB t i r) (i : Nat) (r : Row) (hr : t.rows[i]? = some r) : DefOk K mg t i r := by
  obtain ⟨fd, F⟩ := c.def_ i (d := defOf r) (by rw [List.getElem?_map, hr]; rfl)
  have gl := He.glo_ok X G (fact_mem c (List.mem_append_left _ (List.mem_map_of_mem (f := fun r : Row => He.Fa.glo r.x) (List.mem_of_getElem? hr))))
  have B := hb i r hr
  have F' : FunD K r.x r.x (C8.fnArgs r.st) (C8.fnBody r.st) (C8.fnScope r.st) [] [] (He.ga K r.x) fd := F
  refine ⟨_, fd, ⟨⟨?_⟩, gl, F'.kp⟩, F'.bindsN B.pos, fun j s cf h1 h2 h3 h4 => ?_⟩
  · obtain ⟨oc, od, dV, kV, doc, pm, an, cdv, ct, osl, e1, e2, e3, _⟩ := F'.ex
    exact ⟨oc, od, dV, kV, doc, pm, an, cdv, ct, osl, e1, e2, e3⟩
  · obtain ⟨oc, od, dV, kV, doc, pm, an, cdv, ct, osl, e1, e2, e3, e4, e5⟩ := F'.ex
    refine ⟨fun s0 us ws _ l1 l2 => .of_eq ?_, fun r1 r2 => Vals.pick (r1.append r2) cf.src⟩
    rcases e4 with ⟨_, rfl⟩ | ⟨e, _⟩
    · rw [e1]
      exact B.kw j s cf h1 h2 h3 h4 kV doc pm an cdv ct us ws l1 l2
    · exact absurd rfl e
/-- the law's promise, from what the small language says -/
theorem law_sp {F : List Fn} {cfs : List Cf} {G : List D} {k i n : Nat} (hl : ∀ ns : List Int, ns.length ≤ n → ∃ b S', callF G F cfs k i [.lst (ns.map .int)] [] = .ok (.bl true, b) S') (H : Hp) (a : Addr) (ns : List Int) (h1 : ns.length ≤ n) (hO : Only H) (hS : SqL K H a (ns.map V.int)) :
    spF K (callF G F cfs k) i [.ref a] H (fun v _ => v = .bl true) fun _ _ _ => False := by
  obtain ⟨b, S', e⟩ := hl ns h1
  have fs : ∀ ns : List Int, FVs K H [] (ns.map V.int) (ns.map D.int) := fun ns => by
    induction ns with
    | nil => exact .nil
    | cons z r ih => exact .cons (.int z) ih
  have sf : SqF K H a (ns.map V.int) := by
    rcases hS with (h | ⟨o, h⟩) | h
    · rcases hO a with z | ⟨o, xs, z⟩
      · rw [h] at z; cases z
      · rw [h] at z; cases z
    · exact .inl ⟨o, h⟩
    · exact .inr h
  refine ⟨[.lst (ns.map .int)], [], [], .cons (.lst sf (fs ns)) .nil, ⟨rfl, .nil, fun n a d h => by simp at h⟩, ?_⟩
  rw [e]
  exact fun ι' H' _ v hv => vr_bl hv
/-- the promise of the law's def -/
theorem law_fn {P : Program} {w : World} {k il : Nat} {rl : Row} {fa : Addr} {x : Str} {lawn : Str} (hT : t.ok = true) (hG : okGvs t.gls gvs = true) (hb : ∀ (i : Nat) (r : Row), t.rows[i]? = some r → RowB t i r) (hl : t.rows[il]? = some rl) (hps : rl.ps = [x]) (hn : rl.x = lawn)
    (X : K.In h) (kl : KL K) (G : h.Ns mainGlobals mg) (c : He.SaysD (t.facts gvs) (t.rows.map defOf) K) (hfa : mg lawn = some (.ref fa)) :
    ∃ fd : FuncData, (∀ (s : Shared) (u : Value), BindsTo s fd ⟨[u], []⟩ [(x, u)]) ∧ ∀ base : Heap, FnOk P w K mg base CX0 k fa fd [x] (spF K (callF gvs t.fns t.cfs k) il) := by
  obtain ⟨fd, F⟩ := c.def_ il (d := defOf rl) (by rw [List.getElem?_map, hl]; rfl)
  have gl := He.glo_ok X G (fact_mem c (List.mem_append_left _ (List.mem_map_of_mem (f := fun r : Row => He.Fa.glo r.x) (List.mem_of_getElem? hl))))
  have F' : FunD K rl.x rl.x (C8.fnArgs rl.st) (C8.fnBody rl.st) (C8.fnScope rl.st) [] [] (He.ga K rl.x) fd := F
  have ea : fa = He.ga K rl.x := by
    rw [hn, hfa] at gl
    cases gl; rw [hn]
  subst ea
  refine ⟨fd, fun s u => ?_, fun base => ?_⟩
  · have z := FunD.bindsA (ps := rl.ps) F' (hb il rl hl).pos s [u] (by rw [hps]; rfl)
    rw [hps] at z
    exact z
  · have df : C8.Def K mg rl.x rl.st (He.ga K rl.x) fd := by
      refine ⟨⟨?_⟩, gl, F'.kp⟩
      obtain ⟨oc, od, dV, kV, doc, pm, an, cdv, ct, osl, e1, e2, e3, _⟩ := F'.ex
      exact ⟨oc, od, dV, kV, doc, pm, an, cdv, ct, osl, e1, e2, e3⟩
    rw [← hps]
    exact fn_ok hT (rows_ok X G c hb) kl (frees_ok X G c) (globs_ok X G c hG) k il rl hl _ fd df
end
end Dv
namespace Dv
open PySem PySem.Spec PyProof.Rows L2
/-- no form names the def i by keywords -/
def noKwB (i : Nat) : List Shp → List Cf → Bool
  | s :: ss, c :: cs => (!decide (c.f = i) || s.ks.isEmpty) && noKwB i ss cs
  | _, _ => true
theorem noKw_ok : ∀ {ss : List Shp} {cs : List Cf} {i j : Nat} {s : Shp} {c : Cf}, noKwB i ss cs = true → ss[j]? = some s → cs[j]? = some c → c.f = i → s.ks = []
  | s :: ss, c :: cs, i, 0, _, _, h, h1, h2, h3 => by
    cases h1; cases h2
    obtain ⟨h, _⟩ := and_t h
    rcases Bool.or_eq_true_iff.mp h with z | z
    · rw [h3] at z; simp at z
    · exact List.isEmpty_iff.mp z
  | s :: ss, c :: cs, i, j + 1, _, _, h, h1, h2, h3 => noKw_ok (ss := ss) (cs := cs) (j := j) (and_t h).2 h1 h2 h3
  | [], _, _, j, _, _, _, h1, _, _ => by simp at h1
  | _ :: _, [], _, j, _, _, _, _, h2, _ => by simp at h2
theorem noKw {t : Tab} {i j : Nat} {s : Shp} {c : Cf} (h : noKwB i t.shp t.cfs = true) (h1 : t.shp[j]? = some s) (h2 : t.cfs[j]? = some c) (h3 : c.f = i) : s.ks = [] := noKw_ok h h1 h2 h3
/-- a row whose def no form calls by keywords -/
theorem RowB.plain {t : Tab} {i : Nat} {r : Row} (h : noKwB i t.shp t.cfs = true)
    (p : ∀ (kV doc pm : Value) (an : Option Addr) (cdv ct : Value) (us : List Value), us.length = r.ps.length → bindArgs (PySem.W.fnOf r.x r.x (C8.fnArgs r.st) (C8.fnBody r.st) (C8.fnScope r.st) .none kV doc pm an cdv ct) ⟨us, []⟩ = pure (r.ps.zip us)) : RowB t i r :=
  ⟨p, fun j s c h1 h2 h3 h4 => absurd (noKw h h1 h2 h3) h4⟩
/-- the keyword forms of a def, one by one -/
def KwAll (t : Tab) (i : Nat) (r : Row) : List Shp → List Cf → Prop
  | s :: ss, c :: cs => (c.f = i → s.ks ≠ [] → ∀ (kV doc pm : Value) (an : Option Addr) (cdv ct : Value) (us ws : List Value), us.length = s.n → ws.length = s.ks.length →
    bindArgs (PySem.W.fnOf r.x r.x (C8.fnArgs r.st) (C8.fnBody r.st) (C8.fnScope r.st) .none kV doc pm an cdv ct) ⟨us, s.ks.zip ws⟩ = pure (r.ps.zip (pick c.src (us ++ ws)))) ∧ KwAll t i r ss cs
  | _, _ => True
theorem kwAll_ok {t : Tab} {i : Nat} {r : Row} : ∀ {ss : List Shp} {cs : List Cf}, KwAll t i r ss cs → ∀ (j : Nat) (s : Shp) (c : Cf), ss[j]? = some s → cs[j]? = some c → c.f = i → s.ks ≠ [] → ∀ (kV doc pm : Value) (an : Option Addr) (cdv ct : Value) (us ws : List Value), us.length = s.n → ws.length = s.ks.length →
    bindArgs (PySem.W.fnOf r.x r.x (C8.fnArgs r.st) (C8.fnBody r.st) (C8.fnScope r.st) .none kV doc pm an cdv ct) ⟨us, s.ks.zip ws⟩ = pure (r.ps.zip (pick c.src (us ++ ws)))
  | s :: ss, c :: cs, h, 0, _, _, h1, h2 => by cases h1; cases h2; exact h.1
  | s :: ss, c :: cs, h, j + 1, _, _, h1, h2 => kwAll_ok (ss := ss) (cs := cs) h.2 j _ _ h1 h2
  | [], _, _, j, _, _, h1, _ => by simp at h1
  | _ :: _, [], _, j, _, _, _, h2 => by simp at h2
end Dv

set_option Elab.async false
set_option linter.all false
set_option maxRecDepth 100000
set_option maxHeartbeats 1000000
/-! Dv18: reading the evaluator. -/
namespace Dv
def Sl.pair : Sl → D × Bool
  | .val d => (d, false)
  | .own d => (d, true)
def D.isNon : D → Bool
  | .non => true
  | _ => false
def W {α : Type} (m : M α) (S : Store) (Q : α → Store → Prop) : Prop := match m S with
  | .ok x S' => Q x S'
  | .stuck => False
section
variable {α β : Type} {m : M α} {f : α → M β} {S : Store} {Q : α → Store → Prop} {R : β → Store → Prop}
theorem W.ex (h : W m S Q) : ∃ x S', m S = .ok x S' ∧ Q x S' := by
  unfold W at h
  cases e : m S with
  | stuck => rw [e] at h; exact h.elim
  | ok x S' => rw [e] at h; exact ⟨x, S', rfl, h⟩
theorem W.of {x : α} {S' : Store} (e : m S = .ok x S') (h : Q x S') : W m S Q := by unfold W; rw [e]; exact h
theorem W_eq {x : α} {S' : Store} (e : m S = .ok x S') : W m S Q = Q x S' := by unfold W; rw [e]
theorem W.mono {Q' : α → Store → Prop} (h : W m S Q) (i : ∀ x S', Q x S' → Q' x S') : W m S Q' := by
  obtain ⟨x, S', e, q⟩ := h.ex
  exact .of e (i x S' q)
theorem W_ret {x : α} : W (M.ret x) S Q = Q x S := rfl
theorem W_bind : W (m.bind f) S R = W m S fun x S' => W (f x) S' R := by
  unfold W M.bind
  cases m S <;> rfl
theorem W_guard {p : Prop} [Decidable p] : W (guard p m) S Q = (p ∧ W m S Q) := by
  unfold guard
  by_cases h : p
  · simp [h]
  · simp [h]; unfold W M.fail; exact fun h => h
theorem W_some {x : α} : W (M.opt (some x)) S Q = Q x S := rfl
theorem W_v {d : D} {Q : D × Bool → Store → Prop} : W d.v S Q = Q (d, false) S := rfl
theorem W_f {d : D} {Q : D × Bool → Store → Prop} : W d.f S Q = Q (d, true) S := rfl
theorem W_if {c : Bool} {m' : M α} : W (if c = true then m else m') S Q = (if c = true then W m S Q else W m' S Q) := by cases c <;> rfl
end
section
variable {G : List D} {call : Nat → List D → M (D × Bool)} {ρ : Env} {S : Store} {Q : D × Bool → Store → Prop} {P : D → Store → Prop} {B : Bool → Store → Prop}
theorem wv_non : W (view .non) S P = P .non S := rfl
theorem wv_bl {b : Bool} : W (view (.bl b)) S P = P (.bl b) S := rfl
theorem wv_int {i : Int} : W (view (.int i)) S P = P (.int i) S := rfl
theorem wv_str {s : List Nat} : W (view (.str s)) S P = P (.str s) S := rfl
theorem wv_tup {s : List D} : W (view (.tup s)) S P = P (.tup s) S := rfl
theorem wv_lst {s : List D} : W (view (.lst s)) S P = P (.lst s) S := rfl
theorem wv_ref {n : Nat} : W (view (.ref n)) S P = ∃ d, S[n]? = some d ∧ P d S := by
  unfold W view
  dsimp only
  cases h : S[n]? with
  | none => simp
  | some d => simp
theorem w_objOf {n : Nat} {P : Nat × D → Store → Prop} : W (objOf (.ref n)) S P = ∃ d, S[n]? = some d ∧ P (n, d) S := by
  unfold W objOf
  dsimp only
  cases h : S[n]? with
  | none => simp
  | some d => simp
theorem w_setO {n : Nat} {d : D} {P : Unit → Store → Prop} : W (setO n d) S P = P () (S.set n d) := rfl
theorem w_newO {d : D} : W (newO d) S P = P (.ref S.length) (S ++ [d]) := rfl
theorem w_asL {xs : List D} {P : List D → Store → Prop} : W (asL (.lst xs)) S P = P xs S := rfl
theorem w_asI {i : Int} {P : Int → Store → Prop} : W (asI (.int i)) S P = P i S := rfl
theorem w_asB {b : Bool} : W (asB (.bl b)) S B = B b S := rfl
/-- what a slot holds -/
def Val (ρ : Env) (i : Nat) (d : D) : Prop := ρ[i]? = some (some (.val d))
def Own1 (ρ : Env) (i : Nat) (d : D) : Prop := ρ[i]? = some (some (.own d))
theorem w_rd {i : Nat} : W (rd ρ i) S P = ∃ d, ρ[i]? = some (some (.val d)) ∧ P d S := by
  unfold rd
  cases h : ρ[i]? with
  | none => exact propext ⟨False.elim, fun ⟨d, q, _⟩ => by cases q⟩
  | some o => cases o with
    | none => exact propext ⟨False.elim, fun ⟨d, q, _⟩ => by cases q⟩
    | some t => cases t with
      | val d => exact propext ⟨fun z => ⟨d, rfl, z⟩, fun ⟨e, q, z⟩ => by cases q; exact z⟩
      | own d => exact propext ⟨False.elim, fun ⟨d, q, _⟩ => by cases q⟩
theorem w_pk {i : Nat} : W (pk ρ i) S P = ∃ d, (ρ[i]? = some (some (.val d)) ∨ ρ[i]? = some (some (.own d))) ∧ P d S := by
  unfold pk
  cases h : ρ[i]? with
  | none => exact propext ⟨False.elim, fun ⟨d, q, _⟩ => by rcases q with q | q <;> cases q⟩
  | some o => cases o with
    | none => exact propext ⟨False.elim, fun ⟨d, q, _⟩ => by rcases q with q | q <;> cases q⟩
    | some t => cases t with
      | val d => exact propext ⟨fun z => ⟨d, .inl rfl, z⟩, fun ⟨e, q, z⟩ => by rcases q with q | q <;> cases q; exact z⟩
      | own d => exact propext ⟨fun z => ⟨d, .inr rfl, z⟩, fun ⟨e, q, z⟩ => by rcases q with q | q <;> cases q; exact z⟩
theorem w_ownOf {i : Nat} : W (ownOf ρ i) S P = ∃ d, ρ[i]? = some (some (.own d)) ∧ P d S := by
  unfold ownOf
  cases h : ρ[i]? with
  | none => exact propext ⟨False.elim, fun ⟨d, q, _⟩ => by cases q⟩
  | some o => cases o with
    | none => exact propext ⟨False.elim, fun ⟨d, q, _⟩ => by cases q⟩
    | some t => cases t with
      | val d => exact propext ⟨False.elim, fun ⟨d, q, _⟩ => by cases q⟩
      | own d => exact propext ⟨fun z => ⟨d, rfl, z⟩, fun ⟨e, q, z⟩ => by cases q; exact z⟩
/-- read, not kept -/
def WP (G : List D) (call : Nat → List D → M (D × Bool)) (ρ : Env) (e : E) (S : Store) (P : D → Store → Prop) : Prop := W (peek ρ e (evalE G call ρ e)) S P
/-- kept -/
def WE (G : List D) (call : Nat → List D → M (D × Bool)) (ρ : Env) (e : E) (S : Store) (Q : D × Bool → Store → Prop) : Prop := W (evalE G call ρ e) S Q
def WEs (G : List D) (call : Nat → List D → M (D × Bool)) (ρ : Env) (e : Es) (S : Store) (Q : List D → Store → Prop) : Prop := W (evalEs G call ρ e) S Q
def WEo (G : List D) (call : Nat → List D → M (D × Bool)) (ρ : Env) (e : Eo) (S : Store) (Q : Option Int → Store → Prop) : Prop := W (evalEo G call ρ e) S Q
def WB (G : List D) (call : Nat → List D → M (D × Bool)) (ρ : Env) (e : Eo) (S : Store) (Q : Bool → Store → Prop) : Prop := W (evalB G call ρ e) S Q
def WI (G : List D) (call : Nat → List D → M (D × Bool)) (ρ : Env) (e : It) (S : Store) (Q : List D → Store → Prop) : Prop := W (evalIt G call ρ e) S Q
def WS (G : List D) (call : Nat → List D → M (D × Bool)) (s : Sm) (ρ : Env) (S : Store) (Q : SR → Store → Prop) : Prop := W (exec G call s ρ) S Q
def WSs (G : List D) (call : Nat → List D → M (D × Bool)) (s : Ss) (ρ : Env) (S : Store) (Q : SR → Store → Prop) : Prop := W (execs G call s ρ) S Q
theorem p_var {i : Nat} : WP G call ρ (.var i) S P = ∃ d, (ρ[i]? = some (some (.val d)) ∨ ρ[i]? = some (some (.own d))) ∧ P d S := w_pk

theorem p_non  : WP G call ρ .non S P = WE G call ρ .non S fun v S' => P v.1 S' := show W (M.bind (evalE G call ρ .non) fun v => M.ret v.1) S P = _ from W_bind
theorem p_bl {b : Bool} : WP G call ρ (.bl b) S P = WE G call ρ (.bl b) S fun v S' => P v.1 S' := show W (M.bind (evalE G call ρ (.bl b)) fun v => M.ret v.1) S P = _ from W_bind
theorem p_int {i : Int} : WP G call ρ (.int i) S P = WE G call ρ (.int i) S fun v S' => P v.1 S' := show W (M.bind (evalE G call ρ (.int i)) fun v => M.ret v.1) S P = _ from W_bind
theorem p_str {s : List Nat} : WP G call ρ (.str s) S P = WE G call ρ (.str s) S fun v S' => P v.1 S' := show W (M.bind (evalE G call ρ (.str s)) fun v => M.ret v.1) S P = _ from W_bind
theorem p_glob {g : Nat} : WP G call ρ (.glob g) S P = WE G call ρ (.glob g) S fun v S' => P v.1 S' := show W (M.bind (evalE G call ρ (.glob g)) fun v => M.ret v.1) S P = _ from W_bind
theorem p_bin {o : Bi} {a b : E} : WP G call ρ (.bin o a b) S P = WE G call ρ (.bin o a b) S fun v S' => P v.1 S' := show W (M.bind (evalE G call ρ (.bin o a b)) fun v => M.ret v.1) S P = _ from W_bind
theorem p_neg {a : E} : WP G call ρ (.neg a) S P = WE G call ρ (.neg a) S fun v S' => P v.1 S' := show W (M.bind (evalE G call ρ (.neg a)) fun v => M.ret v.1) S P = _ from W_bind
theorem p_cmp {o : Cm} {a b : E} : WP G call ρ (.cmp o a b) S P = WE G call ρ (.cmp o a b) S fun v S' => P v.1 S' := show W (M.bind (evalE G call ρ (.cmp o a b)) fun v => M.ret v.1) S P = _ from W_bind
theorem p_isN {a : E} : WP G call ρ (.isN a) S P = WE G call ρ (.isN a) S fun v S' => P v.1 S' := show W (M.bind (evalE G call ρ (.isN a)) fun v => M.ret v.1) S P = _ from W_bind
theorem p_isnotN {a : E} : WP G call ρ (.isnotN a) S P = WE G call ρ (.isnotN a) S fun v S' => P v.1 S' := show W (M.bind (evalE G call ρ (.isnotN a)) fun v => M.ret v.1) S P = _ from W_bind
theorem p_chain {o p : Cm} {a b c : E} : WP G call ρ (.chain o p a b c) S P = WE G call ρ (.chain o p a b c) S fun v S' => P v.1 S' := show W (M.bind (evalE G call ρ (.chain o p a b c)) fun v => M.ret v.1) S P = _ from W_bind
theorem p_and {a b : E} : WP G call ρ (.and a b) S P = WE G call ρ (.and a b) S fun v S' => P v.1 S' := show W (M.bind (evalE G call ρ (.and a b)) fun v => M.ret v.1) S P = _ from W_bind
theorem p_or {a b : E} : WP G call ρ (.or a b) S P = WE G call ρ (.or a b) S fun v S' => P v.1 S' := show W (M.bind (evalE G call ρ (.or a b)) fun v => M.ret v.1) S P = _ from W_bind
theorem p_not {a : E} : WP G call ρ (.not a) S P = WE G call ρ (.not a) S fun v S' => P v.1 S' := show W (M.bind (evalE G call ρ (.not a)) fun v => M.ret v.1) S P = _ from W_bind
theorem p_ite {t a b : E} : WP G call ρ (.ite t a b) S P = WE G call ρ (.ite t a b) S fun v S' => P v.1 S' := show W (M.bind (evalE G call ρ (.ite t a b)) fun v => M.ret v.1) S P = _ from W_bind
theorem p_tup {es : Es} : WP G call ρ (.tup es) S P = WE G call ρ (.tup es) S fun v S' => P v.1 S' := show W (M.bind (evalE G call ρ (.tup es)) fun v => M.ret v.1) S P = _ from W_bind
theorem p_lst {es : Es} : WP G call ρ (.lst es) S P = WE G call ρ (.lst es) S fun v S' => P v.1 S' := show W (M.bind (evalE G call ρ (.lst es)) fun v => M.ret v.1) S P = _ from W_bind
theorem p_idx {a i : E} : WP G call ρ (.idx a i) S P = WE G call ρ (.idx a i) S fun v S' => P v.1 S' := show W (M.bind (evalE G call ρ (.idx a i)) fun v => M.ret v.1) S P = _ from W_bind
theorem p_cut {a : E} {lo hi : Eo} : WP G call ρ (.cut a lo hi) S P = WE G call ρ (.cut a lo hi) S fun v S' => P v.1 S' := show W (M.bind (evalE G call ρ (.cut a lo hi)) fun v => M.ret v.1) S P = _ from W_bind
theorem p_b1 {f : B1} {a : E} : WP G call ρ (.b1 f a) S P = WE G call ρ (.b1 f a) S fun v S' => P v.1 S' := show W (M.bind (evalE G call ρ (.b1 f a)) fun v => M.ret v.1) S P = _ from W_bind
theorem p_isin {a : E} {ts : List Ty} : WP G call ρ (.isin a ts) S P = WE G call ρ (.isin a ts) S fun v S' => P v.1 S' := show W (M.bind (evalE G call ρ (.isin a ts)) fun v => M.ret v.1) S P = _ from W_bind
theorem p_join {s a : E} : WP G call ρ (.join s a) S P = WE G call ρ (.join s a) S fun v S' => P v.1 S' := show W (M.bind (evalE G call ρ (.join s a)) fun v => M.ret v.1) S P = _ from W_bind
theorem p_call {f : Nat} {es : Es} : WP G call ρ (.call f es) S P = WE G call ρ (.call f es) S fun v S' => P v.1 S' := show W (M.bind (evalE G call ρ (.call f es)) fun v => M.ret v.1) S P = _ from W_bind
theorem p_callK {f n m : Nat} {es ks : Es} : WP G call ρ (.callK f n m es ks) S P = WE G call ρ (.callK f n m es ks) S fun v S' => P v.1 S' := show W (M.bind (evalE G call ρ (.callK f n m es ks)) fun v => M.ret v.1) S P = _ from W_bind
theorem p_comp {own tg : List Nat} {elt : E} {src : It} {cond : Eo} : WP G call ρ (.comp own elt tg src cond) S P = WE G call ρ (.comp own elt tg src cond) S fun v S' => P v.1 S' := show W (M.bind (evalE G call ρ (.comp own elt tg src cond)) fun v => M.ret v.1) S P = _ from W_bind
/-- one turn of a comprehension -/
def turnW (G : List D) (call : Nat → List D → M (D × Bool)) (ρ : Env) (own tg : List Nat) (elt : E) (cond : Eo) (x : D) : M (Option D) := (M.opt (put (wipe ρ own) tg x)).bind fun ρ' => (evalB G call ρ' cond).bind fun k => if k then (evalE G call ρ' elt).bind fun y => M.ret (some y.1) else M.ret none
theorem w_turn {own tg : List Nat} {elt : E} {cond : Eo} {x : D} {R : Option D → Store → Prop} : W (turnW G call ρ own tg elt cond x) S R = W (M.opt (put (wipe ρ own) tg x)) S fun ρ' S => WB G call ρ' cond S fun k S => if k = true then WE G call ρ' elt S fun y S => R (some y.1) S else R none S := by
  unfold turnW WB WE
  simp only [W_bind, W_if, W_ret]
theorem e_var {i : Nat} : WE G call ρ (.var i) S Q = (∃ d, ρ[i]? = some (some (.val d)) ∧ Q (d, false) S) := by unfold WE evalE; rw [W_bind, w_rd]; rfl
theorem e_non  : WE G call ρ .non S Q = (Q (.non, false) S) := rfl
theorem e_bl {b : Bool} : WE G call ρ (.bl b) S Q = (Q (.bl b, false) S) := rfl
theorem e_int {i : Int} : WE G call ρ (.int i) S Q = (Q (.int i, false) S) := rfl
theorem e_str {s : List Nat} : WE G call ρ (.str s) S Q = (Q (.str s, false) S) := rfl
theorem e_glob {g : Nat} : WE G call ρ (.glob g) S Q = (W (M.opt G[g]?) S fun d S => Q (d, false) S) := by unfold WE evalE; rw [W_bind]; rfl
theorem e_bin {o : Bi} {a b : E} : WE G call ρ (.bin o a b) S Q = (WP G call ρ a S fun x S => WP G call ρ b S fun y S => W (view x) S fun x S => W (view y) S fun y S => W (binop o x y) S Q) := by unfold WE evalE WP; simp only [W_bind]
theorem e_neg {a : E} : WE G call ρ (.neg a) S Q = (WE G call ρ a S fun x S => W (asI x.1) S fun i S => Q (.int (-i), false) S) := by unfold WE; rw [evalE]; simp only [W_bind, W_v]
theorem e_cmp {o : Cm} {a b : E} : WE G call ρ (.cmp o a b) S Q = (WP G call ρ a S fun x S => WP G call ρ b S fun y S => W (view x) S fun x S => W (view y) S fun y S => W (cmpop o x y) S fun k S => Q (.bl k, false) S) := by unfold WE evalE WP cmpV; simp only [W_bind, W_v]
theorem e_isN {a : E} : WE G call ρ (.isN a) S Q = (WE G call ρ a S fun x S => Q (.bl x.1.isNon, false) S) := by unfold WE; rw [evalE]; simp only [W_bind, W_v]; rfl
theorem e_isnotN {a : E} : WE G call ρ (.isnotN a) S Q = (WE G call ρ a S fun x S => Q (.bl (!x.1.isNon), false) S) := by unfold WE; rw [evalE]; simp only [W_bind, W_v]; congr 1; funext x S; obtain ⟨x, b⟩ := x; cases x <;> rfl
theorem e_chain {o p : Cm} {a b c : E} : WE G call ρ (.chain o p a b c) S Q = (WP G call ρ a S fun x S => WP G call ρ b S fun y S => W (cmpV o x y) S fun k S => if k = true then WP G call ρ c S fun z S => W (cmpV p y z) S fun k S => Q (.bl k, false) S else Q (.bl false, false) S) := by unfold WE evalE WP; simp only [W_bind, W_v, W_if]
theorem e_and {a b : E} : WE G call ρ (.and a b) S Q = (WE G call ρ a S fun x S => W (asB x.1) S fun k S => if k = true then WE G call ρ b S Q else Q (.bl false, false) S) := by unfold WE; rw [evalE]; simp only [W_bind, W_v, W_if]
theorem e_or {a b : E} : WE G call ρ (.or a b) S Q = (WE G call ρ a S fun x S => W (asB x.1) S fun k S => if k = true then Q (.bl true, false) S else WE G call ρ b S Q) := by unfold WE; rw [evalE]; simp only [W_bind, W_v, W_if]
theorem e_not {a : E} : WE G call ρ (.not a) S Q = (WE G call ρ a S fun x S => W (asB x.1) S fun k S => Q (.bl !k, false) S) := by unfold WE; rw [evalE]; simp only [W_bind, W_v]
theorem e_ite {t a b : E} : WE G call ρ (.ite t a b) S Q = (WE G call ρ t S fun x S => W (asB x.1) S fun k S => if k = true then WE G call ρ a S Q else WE G call ρ b S Q) := by unfold WE; rw [evalE]; simp only [W_bind, W_v, W_if]
theorem e_tup {es : Es} : WE G call ρ (.tup es) S Q = (WEs G call ρ es S fun xs S => xs.length ≤ line ∧ Q (.tup xs, false) S) := by unfold WE WEs evalE; simp only [W_bind, W_v, W_guard]
theorem e_lst {es : Es} : WE G call ρ (.lst es) S Q = (WEs G call ρ es S fun xs S => xs.length ≤ line ∧ Q (.lst xs, true) S) := by unfold WE WEs evalE; simp only [W_bind, W_f, W_guard]
theorem e_idx {a i : E} : WE G call ρ (.idx a i) S Q = (WP G call ρ a S fun x S => WE G call ρ i S fun k S => W (view x) S fun x S => W (index x k.1) S fun d S => Q (d, false) S) := by unfold WP WE; rw [evalE]; simp only [W_bind, W_v]
theorem e_cut {a : E} {lo hi : Eo} : WE G call ρ (.cut a lo hi) S Q = (WP G call ρ a S fun x S => WEo G call ρ lo S fun l S => WEo G call ρ hi S fun h S => W (view x) S fun x S => W (cutop x l h) S Q) := by unfold WP WE WEo; rw [evalE]; simp only [W_bind, W_v]
theorem e_b1 {f : B1} {a : E} : WE G call ρ (.b1 f a) S Q = (WP G call ρ a S fun x S => W (view x) S fun x S => W (b1op f x) S Q) := by unfold WP WE; rw [evalE]; simp only [W_bind, W_v]
theorem e_isin {a : E} {ts : List Ty} : WE G call ρ (.isin a ts) S Q = (WP G call ρ a S fun x S => W (view x) S fun x S => noRef x = true ∧ Q (.bl (ts.any fun t => t.has x), false) S) := by unfold WP WE; rw [evalE]; simp only [W_bind, W_v, W_guard]
theorem e_join {s a : E} : WE G call ρ (.join s a) S Q = (WE G call ρ s S fun x S => WP G call ρ a S fun y S => W (view y) S fun y S => W (joinop x.1 y) S fun d S => Q (d, false) S) := by unfold WP WE; rw [evalE]; simp only [W_bind, W_v, W_guard]
theorem e_call {f : Nat} {es : Es} : WE G call ρ (.call f es) S Q = (WEs G call ρ es S fun xs S => W (call f xs) S Q) := by unfold WE WEs evalE; simp only [W_bind]
theorem e_callK {f n m : Nat} {es ks : Es} : WE G call ρ (.callK f n m es ks) S Q = (WEs G call ρ es S fun xs S => WEs G call ρ ks S fun zs S => (xs.length = n ∧ zs.length = m) ∧ W (call f (xs ++ zs)) S Q) := by unfold WE WEs evalE; simp only [W_bind, W_guard]
theorem e_comp {own tg : List Nat} {elt : E} {src : It} {cond : Eo} : WE G call ρ (.comp own elt tg src cond) S Q = (WI G call ρ src S fun xs S => xs.length ≤ line ∧ W (mapF (turnW G call ρ own tg elt cond) xs) S fun ys S => Q (.lst ys, true) S) := by unfold WE WI turnW; rw [evalE]; simp only [W_bind, W_f, W_guard]
variable {L : List D → Store → Prop} {I : Option Int → Store → Prop}
theorem es_nil : WEs G call ρ .nil S L = L [] S := rfl
theorem es_cons {e : E} {es : Es} : WEs G call ρ (.cons e es) S L = WE G call ρ e S fun x S => WEs G call ρ es S fun xs S => L (x.1 :: xs) S := by unfold WEs WE; rw [evalEs]; simp only [W_bind, W_ret]
theorem eo_none : WEo G call ρ .none S I = I none S := rfl
theorem eo_some {e : E} : WEo G call ρ (.some e) S I = WE G call ρ e S fun x S => W (asI x.1) S fun i S => I (some i) S := by unfold WEo WE; rw [evalEo]; simp only [W_bind, W_ret]
theorem b_none : WB G call ρ .none S B = B true S := rfl
theorem b_some {e : E} : WB G call ρ (.some e) S B = WE G call ρ e S fun x S => W (asB x.1) S B := by unfold WB WE; rw [evalB]; simp only [W_bind]
theorem i_over' {e : E} : WI G call ρ (.over e) S L = WP G call ρ e S fun x S => W (items x) S L := by unfold WI WP; rw [evalIt]; simp only [W_bind]
theorem i_range' {e : E} : WI G call ρ (.range e) S L = WE G call ρ e S fun x S => W (asI x.1) S fun j S => small j ∧ L (rangeL 0 j) S := by unfold WI WE; rw [evalIt]; simp only [W_bind, W_guard, W_ret]
theorem i_range2' {a b : E} : WI G call ρ (.range2 a b) S L = WE G call ρ a S fun x S => WE G call ρ b S fun y S => W (asI x.1) S fun i S => W (asI y.1) S fun j S => (small i ∧ small j) ∧ L (rangeL i j) S := by unfold WI WE; rw [evalIt]; simp only [W_bind, W_guard, W_ret]
theorem i_zip' {a b : E} : WI G call ρ (.zip a b) S L = WP G call ρ a S fun x S => WP G call ρ b S fun y S => W (zipop x y) S L := by unfold WI WP; rw [evalIt]; simp only [W_bind]
theorem i_enum' {a : E} : WI G call ρ (.enum a) S L = WP G call ρ a S fun x S => W (enumop x) S L := by unfold WI WP; rw [evalIt]; simp only [W_bind]
theorem it_lst {xs : List D} : W (items (.lst xs)) S L = L xs S := rfl
theorem it_tup {xs : List D} : W (items (.tup xs)) S L = L xs S := rfl
theorem it_str {s : List Nat} : W (items (.str s)) S L = L (s.map fun c => .str [c]) S := rfl
theorem z_lst {xs ys : List D} : W (zipop (.lst xs) (.lst ys)) S L = L ((xs.zip ys).map fun p => .tup [p.1, p.2]) S := rfl
theorem z_tup {xs ys : List D} : W (zipop (.tup xs) (.tup ys)) S L = L ((xs.zip ys).map fun p => .tup [p.1, p.2]) S := rfl
theorem en_lst {xs : List D} : W (enumop (.lst xs)) S L = L (((List.range xs.length).zip xs).map fun p => .tup [.int p.1, p.2]) S := rfl
/-! operators -/
theorem o_addI {i j : Int} : W (binop .add (.int i) (.int j)) S Q = Q (.int (i + j), false) S := rfl
theorem o_addS {s t : List Nat} : W (binop .add (.str s) (.str t)) S Q = (s.length + t.length ≤ line ∧ Q (.str (s ++ t), false) S) := W_guard
theorem o_addL {s t : List D} : W (binop .add (.lst s) (.lst t)) S Q = (s.length + t.length ≤ line ∧ Q (.lst (s ++ t), true) S) := W_guard
theorem o_sub {i j : Int} : W (binop .sub (.int i) (.int j)) S Q = Q (.int (i - j), false) S := rfl
theorem o_mul {i j : Int} : W (binop .mul (.int i) (.int j)) S Q = (((-(2 ^ 64) < i ∧ i < 2 ^ 64) ∨ (-(2 ^ 64) < j ∧ j < 2 ^ 64)) ∧ Q (.int (i * j), false) S) := W_guard
theorem o_mulL {xs : List D} {k : Int} : W (binop .mul (.lst xs) (.int k)) S Q = ((-(2 ^ 63) ≤ k ∧ k < 2 ^ 63 ∧ xs.length * k.toNat ≤ line) ∧ Q (.lst (List.replicate k.toNat xs).flatten, true) S) := W_guard
theorem o_fdiv {i j : Int} : W (binop .fdiv (.int i) (.int j)) S Q = ((j ≠ 0 ∧ j.natAbs < 1073741824) ∧ Q (.int (i.fdiv j), false) S) := W_guard
theorem o_mod {i j : Int} : W (binop .mod (.int i) (.int j)) S Q = (j ≠ 0 ∧ Q (.int (i.fmod j), false) S) := W_guard
theorem o_pow {i j : Int} : W (binop .pow (.int i) (.int j)) S Q = ((0 ≤ j ∧ j ≤ 1000000 ∧ i.natAbs < 2 ^ 64) ∧ Q (.int (i ^ j.toNat), false) S) := W_guard
theorem k_lt {i j : Int} : W (cmpop .lt (.int i) (.int j)) S B = B (decide (i < j)) S := rfl
theorem k_le {i j : Int} : W (cmpop .le (.int i) (.int j)) S B = B (decide (i ≤ j)) S := rfl
theorem k_gt {i j : Int} : W (cmpop .gt (.int i) (.int j)) S B = B (decide (j < i)) S := rfl
theorem k_ge {i j : Int} : W (cmpop .ge (.int i) (.int j)) S B = B (decide (j ≤ i)) S := rfl
theorem k_eq {x y : D} : W (cmpop .eq x y) S B = ((D.plain 20 x = true ∧ D.plain 20 y = true) ∧ B (D.eqv x y) S) := W_guard
theorem k_ne {x y : D} : W (cmpop .ne x y) S B = ((D.plain 20 x = true ∧ D.plain 20 y = true) ∧ B (!D.eqv x y) S) := W_guard
theorem k_inS {c : Nat} {s : List Nat} : W (cmpop .in_ (.str [c]) (.str s)) S B = B (s.contains c) S := rfl
theorem k_niS {c : Nat} {s : List Nat} : W (cmpop .notin (.str [c]) (.str s)) S B = B (!s.contains c) S := rfl
theorem k_V {o : Cm} {x y : D} : W (cmpV o x y) S B = W (view x) S fun x S => W (view y) S fun y S => W (cmpop o x y) S B := by unfold cmpV; simp only [W_bind]
theorem f_lenL {xs : List D} : W (b1op .len (.lst xs)) S Q = Q (.int xs.length, false) S := rfl
theorem f_lenT {xs : List D} : W (b1op .len (.tup xs)) S Q = Q (.int xs.length, false) S := rfl
theorem f_lenS {s : List Nat} : W (b1op .len (.str s)) S Q = (s.length ≤ line ∧ Q (.int s.length, false) S) := W_guard
theorem f_intI {i : Int} : W (b1op .int (.int i)) S Q = Q (.int i, false) S := rfl
theorem f_intB {b : Bool} : W (b1op .int (.bl b)) S Q = Q (.int (b2i b), false) S := rfl
theorem f_listL {xs : List D} : W (b1op .list (.lst xs)) S Q = Q (.lst xs, true) S := rfl
theorem f_listT {xs : List D} : W (b1op .list (.tup xs)) S Q = Q (.lst xs, true) S := rfl
theorem f_all {xs : List D} : W (b1op .all (.lst xs)) S Q = W (M.opt (allB xs)) S fun bs S => Q (.bl (bs.all id), false) S := by unfold b1op; rw [W_bind]; rfl
theorem f_any {xs : List D} : W (b1op .any (.lst xs)) S Q = W (M.opt (allB xs)) S fun bs S => Q (.bl (bs.any id), false) S := by unfold b1op; rw [W_bind]; rfl
theorem x_lst {xs : List D} {i : Int} : W (index (.lst xs) (.int i)) S P = W (M.opt ((ixN xs.length i).bind fun j => xs[j]?)) S P := rfl
theorem x_tup {xs : List D} {i : Int} : W (index (.tup xs) (.int i)) S P = W (M.opt ((ixN xs.length i).bind fun j => xs[j]?)) S P := rfl
theorem x_str {s : List Nat} {i : Int} : W (index (.str s) (.int i)) S P = (s.length ≤ line ∧ W (M.opt ((ixN s.length i).bind fun j => (s[j]?).map fun c => D.str [c])) S P) := W_guard
theorem c_L {xs : List D} {l h : Option Int} : W (cutop (.lst xs) l h) S Q = Q (.lst (cutL xs l h), true) S := rfl
theorem c_S {s : List Nat} {l h : Option Int} : W (cutop (.str s) l h) S Q = (s.length ≤ line ∧ Q (.str (cutL s l h), false) S) := W_guard
theorem j_L {s : List Nat} {xs : List D} : W (joinop (.str s) (.lst xs)) S P = W (M.opt (allS xs)) S fun ts S => (ts.map List.length).sum + ts.length * s.length ≤ line ∧ P (.str (TL.joinL s ts)) S := by unfold joinop; rw [W_bind]; simp only [W_guard, W_ret]
/-! statements -/
variable {Z : SR → Store → Prop}
theorem w_execs {s : Ss} : W (execs G call s ρ) S Z = WSs G call s ρ S Z := rfl
theorem s_nil' : WSs G call .nil ρ S Z = Z (.nx ρ) S := rfl
/-- what follows -/
def Then (G : List D) (call : Nat → List D → M (D × Bool)) (r : Ss) (Z : SR → Store → Prop) (o : SR) (S : Store) : Prop := match o with
  | .nx ρ => WSs G call r ρ S Z
  | o => Z o S
theorem s_cons' {s : Sm} {r : Ss} : WSs G call (.cons s r) ρ S Z = WS G call s ρ S (Then G call r Z) := by
  unfold WSs WS; rw [execs, W_bind]
  congr 1
  funext o S'
  cases o <;> rfl
theorem t_nx {r : Ss} : Then G call r Z (.nx ρ) S = WSs G call r ρ S Z := rfl
theorem t_ret {r : Ss} {v : D × Bool} : Then G call r Z (.ret v) S = Z (.ret v) S := rfl
theorem t_brk {r : Ss} : Then G call r Z (.brk ρ) S = Z (.brk ρ) S := rfl
theorem t_ct {r : Ss} : Then G call r Z (.ct ρ) S = Z (.ct ρ) S := rfl
theorem x_set {i : Nat} {e : E} : WS G call (.set i e) ρ S Z = WE G call ρ e S fun x S => Z (.nx (ρ.set i (some (.val x.1)))) S := by unfold WS WE; rw [exec, W_bind]; rfl
theorem x_own {i : Nat} {e : E} : WS G call (.own i e) ρ S Z = WE G call ρ e S fun x S => x.2 = true ∧ Z (.nx (ρ.set i (some (.own x.1)))) S := by unfold WS WE; rw [exec, W_bind]; simp only [W_guard, W_ret]
theorem x_sha {i : Nat} {e : E} : WS G call (.sha i e) ρ S Z = WE G call ρ e S fun x S => x.2 = true ∧ Z (.nx (ρ.set i (some (.val (.ref S.length))))) (S ++ [x.1]) := by unfold WS WE; rw [exec, W_bind]; simp only [W_guard, W_bind, w_newO, W_ret]
theorem x_retV {i : Nat} : WS G call (.ret (.var i)) ρ S Z = ∃ t, ρ[i]? = some (some t) ∧ Z (.ret t.pair) S := by
  unfold WS; rw [exec]
  cases h : ρ[i]? with
  | none => exact propext ⟨False.elim, fun ⟨d, q, _⟩ => by cases q⟩
  | some o => cases o with
    | none => exact propext ⟨False.elim, fun ⟨d, q, _⟩ => by cases q⟩
    | some t => cases t with
      | val d => exact propext ⟨fun z => ⟨_, rfl, z⟩, fun ⟨e, q, z⟩ => by cases q; exact z⟩
      | own d => exact propext ⟨fun z => ⟨_, rfl, z⟩, fun ⟨e, q, z⟩ => by cases q; exact z⟩
theorem x_retN : WS G call .retN ρ S Z = Z (.ret (.non, false)) S := rfl
theorem x_if {t : E} {a b : Ss} : WS G call (.if_ t a b) ρ S Z = WE G call ρ t S fun x S => W (asB x.1) S fun k S => if k = true then WSs G call a ρ S Z else WSs G call b ρ S Z := by unfold WS WE WSs; rw [exec]; simp only [W_bind, W_if]
theorem x_for {tg : List Nat} {src : It} {body : Ss} : WS G call (.for_ tg src body) ρ S Z = (noOwn ρ src = true ∧ WI G call ρ src S fun xs S => xs.length ≤ line ∧ W (forF (fun x ρ => (M.opt (put ρ tg x)).bind fun ρ' => execs G call body ρ') xs ρ) S Z) := by unfold WS WI; rw [exec]; simp only [W_bind, W_guard]
theorem x_while {t : E} {body : Ss} : WS G call (.while_ t body) ρ S Z = W (whileF (fun ρ => (evalE G call ρ t).bind fun x => asB x.1) (fun ρ => execs G call body ρ) turns ρ) S Z := by unfold WS; rw [exec]
theorem x_expr {e : E} : WS G call (.expr e) ρ S Z = WE G call ρ e S fun _ S => Z (.nx ρ) S := by unfold WS WE; rw [exec, W_bind]; rfl
theorem x_app {i : Nat} {e : E} : WS G call (.app i e) ρ S Z = W (ownOf ρ i) S fun o S => W (asL o) S fun xs S => WE G call ρ e S fun y S => xs.length < line ∧ Z (.nx (ρ.set i (some (.own (.lst (xs ++ [y.1])))))) S := by unfold WS WE; rw [exec]; simp only [W_bind, W_guard, W_ret]
theorem x_putI {i : Nat} {k e : E} : WS G call (.putI i k e) ρ S Z = WE G call ρ e S fun y S => W (ownOf ρ i) S fun o S => W (asL o) S fun xs S => WE G call ρ k S fun kk S => W (asI kk.1) S fun j S => W (M.opt (ixN xs.length j)) S fun p S => Z (.nx (ρ.set i (some (.own (.lst (xs.set p y.1)))))) S := by unfold WS WE; rw [exec]; simp only [W_bind, W_guard, W_ret]
theorem x_putR {a k e : E} : WS G call (.putR a k e) ρ S Z = WE G call ρ e S fun y S => WE G call ρ a S fun r S => WE G call ρ k S fun kk S => W (asI kk.1) S fun j S => W (objOf r.1) S fun o S => W (asL o.2) S fun xs S => y.1.under o.1 = true ∧ W (M.opt (ixN xs.length j)) S fun p S => Z (.nx ρ) (S.set o.1 (.lst (xs.set p y.1))) := by unfold WS WE; rw [exec]; simp only [W_bind, W_guard, W_ret, w_setO]
theorem x_frz {i : Nat} : WS G call (.frz i) ρ S Z = W (ownOf ρ i) S fun o S => Z (.nx (ρ.set i (some (.val o)))) S := by unfold WS; rw [exec, W_bind]; rfl
theorem x_pass : WS G call .pass ρ S Z = Z (.nx ρ) S := rfl
theorem x_brk : WS G call .brk ρ S Z = Z (.brk ρ) S := rfl
theorem x_cont : WS G call .cont ρ S Z = Z (.ct ρ) S := rfl
/-- a def's end -/
def Fin (Q : D × Bool → Store → Prop) (o : SR) (S : Store) : Prop := match o with
  | .ret v => Q v S
  | .nx _ => Q (.non, false) S
  | _ => False
theorem fin_ret {v : D × Bool} : Fin Q (.ret v) S = Q v S := rfl
theorem fin_nx : Fin Q (.nx ρ) S = Q (.non, false) S := rfl
theorem w_body {f : Fn} {xs : List D} : W (body G call f xs) S Q = (xs.length = f.np ∧ WSs G call f.body (xs.map (fun d => some (Sl.val d)) ++ List.replicate (f.ns - f.np) none) S (Fin Q)) := by
  unfold body WSs
  rw [W_guard, W_bind]
  congr 2
  funext o S'
  cases o <;> rfl

theorem r_non  : WS G call (.ret .non) ρ S Z = WE G call ρ .non S fun x S => Z (.ret x) S := by unfold WS WE; rw [exec, W_bind] <;> first | rfl | (intro i h; cases h)
theorem r_bl {b : Bool} : WS G call (.ret (.bl b)) ρ S Z = WE G call ρ (.bl b) S fun x S => Z (.ret x) S := by unfold WS WE; rw [exec, W_bind] <;> first | rfl | (intro i h; cases h)
theorem r_int {i : Int} : WS G call (.ret (.int i)) ρ S Z = WE G call ρ (.int i) S fun x S => Z (.ret x) S := by unfold WS WE; rw [exec, W_bind] <;> first | rfl | (intro i h; cases h)
theorem r_str {s : List Nat} : WS G call (.ret (.str s)) ρ S Z = WE G call ρ (.str s) S fun x S => Z (.ret x) S := by unfold WS WE; rw [exec, W_bind] <;> first | rfl | (intro i h; cases h)
theorem r_glob {g : Nat} : WS G call (.ret (.glob g)) ρ S Z = WE G call ρ (.glob g) S fun x S => Z (.ret x) S := by unfold WS WE; rw [exec, W_bind] <;> first | rfl | (intro i h; cases h)
theorem r_bin {o : Bi} {a b : E} : WS G call (.ret (.bin o a b)) ρ S Z = WE G call ρ (.bin o a b) S fun x S => Z (.ret x) S := by unfold WS WE; rw [exec, W_bind] <;> first | rfl | (intro i h; cases h)
theorem r_neg {a : E} : WS G call (.ret (.neg a)) ρ S Z = WE G call ρ (.neg a) S fun x S => Z (.ret x) S := by unfold WS WE; rw [exec, W_bind] <;> first | rfl | (intro i h; cases h)
theorem r_cmp {o : Cm} {a b : E} : WS G call (.ret (.cmp o a b)) ρ S Z = WE G call ρ (.cmp o a b) S fun x S => Z (.ret x) S := by unfold WS WE; rw [exec, W_bind] <;> first | rfl | (intro i h; cases h)
theorem r_isN {a : E} : WS G call (.ret (.isN a)) ρ S Z = WE G call ρ (.isN a) S fun x S => Z (.ret x) S := by unfold WS WE; rw [exec, W_bind] <;> first | rfl | (intro i h; cases h)
theorem r_isnotN {a : E} : WS G call (.ret (.isnotN a)) ρ S Z = WE G call ρ (.isnotN a) S fun x S => Z (.ret x) S := by unfold WS WE; rw [exec, W_bind] <;> first | rfl | (intro i h; cases h)
theorem r_chain {o p : Cm} {a b c : E} : WS G call (.ret (.chain o p a b c)) ρ S Z = WE G call ρ (.chain o p a b c) S fun x S => Z (.ret x) S := by unfold WS WE; rw [exec, W_bind] <;> first | rfl | (intro i h; cases h)
theorem r_and {a b : E} : WS G call (.ret (.and a b)) ρ S Z = WE G call ρ (.and a b) S fun x S => Z (.ret x) S := by unfold WS WE; rw [exec, W_bind] <;> first | rfl | (intro i h; cases h)
theorem r_or {a b : E} : WS G call (.ret (.or a b)) ρ S Z = WE G call ρ (.or a b) S fun x S => Z (.ret x) S := by unfold WS WE; rw [exec, W_bind] <;> first | rfl | (intro i h; cases h)
theorem r_not {a : E} : WS G call (.ret (.not a)) ρ S Z = WE G call ρ (.not a) S fun x S => Z (.ret x) S := by unfold WS WE; rw [exec, W_bind] <;> first | rfl | (intro i h; cases h)
theorem r_ite {t a b : E} : WS G call (.ret (.ite t a b)) ρ S Z = WE G call ρ (.ite t a b) S fun x S => Z (.ret x) S := by unfold WS WE; rw [exec, W_bind] <;> first | rfl | (intro i h; cases h)
theorem r_tup {es : Es} : WS G call (.ret (.tup es)) ρ S Z = WE G call ρ (.tup es) S fun x S => Z (.ret x) S := by unfold WS WE; rw [exec, W_bind] <;> first | rfl | (intro i h; cases h)
theorem r_lst {es : Es} : WS G call (.ret (.lst es)) ρ S Z = WE G call ρ (.lst es) S fun x S => Z (.ret x) S := by unfold WS WE; rw [exec, W_bind] <;> first | rfl | (intro i h; cases h)
theorem r_idx {a i : E} : WS G call (.ret (.idx a i)) ρ S Z = WE G call ρ (.idx a i) S fun x S => Z (.ret x) S := by unfold WS WE; rw [exec, W_bind] <;> first | rfl | (intro i h; cases h)
theorem r_cut {a : E} {lo hi : Eo} : WS G call (.ret (.cut a lo hi)) ρ S Z = WE G call ρ (.cut a lo hi) S fun x S => Z (.ret x) S := by unfold WS WE; rw [exec, W_bind] <;> first | rfl | (intro i h; cases h)
theorem r_b1 {f : B1} {a : E} : WS G call (.ret (.b1 f a)) ρ S Z = WE G call ρ (.b1 f a) S fun x S => Z (.ret x) S := by unfold WS WE; rw [exec, W_bind] <;> first | rfl | (intro i h; cases h)
theorem r_isin {a : E} {ts : List Ty} : WS G call (.ret (.isin a ts)) ρ S Z = WE G call ρ (.isin a ts) S fun x S => Z (.ret x) S := by unfold WS WE; rw [exec, W_bind] <;> first | rfl | (intro i h; cases h)
theorem r_join {s a : E} : WS G call (.ret (.join s a)) ρ S Z = WE G call ρ (.join s a) S fun x S => Z (.ret x) S := by unfold WS WE; rw [exec, W_bind] <;> first | rfl | (intro i h; cases h)
theorem r_call {f : Nat} {es : Es} : WS G call (.ret (.call f es)) ρ S Z = WE G call ρ (.call f es) S fun x S => Z (.ret x) S := by unfold WS WE; rw [exec, W_bind] <;> first | rfl | (intro i h; cases h)
theorem r_callK {f n m : Nat} {es ks : Es} : WS G call (.ret (.callK f n m es ks)) ρ S Z = WE G call ρ (.callK f n m es ks) S fun x S => Z (.ret x) S := by unfold WS WE; rw [exec, W_bind] <;> first | rfl | (intro i h; cases h)
theorem r_comp {own tg : List Nat} {elt : E} {src : It} {cond : Eo} : WS G call (.ret (.comp own elt tg src cond)) ρ S Z = WE G call ρ (.comp own elt tg src cond) S fun x S => Z (.ret x) S := by unfold WS WE; rw [exec, W_bind] <;> first | rfl | (intro i h; cases h)
theorem u_non {n : Nat} : D.non.under n = true := rfl
theorem u_bl {n : Nat} {b : Bool} : (D.bl b).under n = true := rfl
theorem u_int {n : Nat} {i : Int} : (D.int i).under n = true := rfl
theorem u_str {n : Nat} {s : List Nat} : (D.str s).under n = true := rfl
theorem u_ref {n k : Nat} : (D.ref k).under n = decide (k < n) := rfl
theorem ixN_nn {n : Nat} {i : Int} (h : 0 ≤ i) (h2 : i < n) : ixN n i = some i.toNat := by
  unfold ixN; rw [if_pos h, if_pos h2]
theorem w_ix {α : Type} {xs : List α} {i : Int} {x : α} {S : Store} {P : α → Store → Prop} (h : 0 ≤ i) (hx : xs[i.toNat]? = some x) : W (M.opt ((ixN xs.length i).bind fun j => xs[j]?)) S P = P x S := by
  have h2 : i < xs.length := by
    have := (List.getElem?_eq_some_iff.mp hx).1
    omega
  rw [ixN_nn h h2]
  show W (M.opt xs[i.toNat]?) S P = _
  rw [hx]; rfl
theorem w_mapF_pure {f : D → M (Option D)} {g : D → Option D} {P : List D → Store → Prop} : ∀ {xs : List D}, (∀ x ∈ xs, f x S = .ok (g x) S) → W (mapF f xs) S P = P (xs.filterMap g) S
  | [], _ => rfl
  | x :: r, h => by
    rw [mapF, W_bind, W_eq (h x List.mem_cons_self), W_bind, w_mapF_pure (xs := r) fun y hy => h y (List.mem_cons_of_mem _ hy), List.filterMap_cons]
    cases g x <;> rfl
theorem W.pure {α : Type} {m : M α} {x : α} (h : ∀ R : α → Store → Prop, R x S → W m S R) : m S = .ok x S := by
  obtain ⟨y, S', e, q⟩ := (h (fun y S' => y = x ∧ S' = S) ⟨rfl, rfl⟩).ex
  rw [e, q.1, q.2]
theorem w_mapF_inv {f : D → M (Option D)} {P : List D → Store → Prop} (I : Nat → List D → Store → Prop) : ∀ {xs : List D} {i : Nat} {ys : List D} {S : Store} (_ : I i ys S) (_ : ∀ i ys x S, x ∈ xs → I i ys S → W (f x) S fun o S' => I (i + 1) (match o with | some y => ys ++ [y] | none => ys) S')
    (_ : ∀ ys S, I (i + xs.length) ys S → P ys S), W (mapF f xs) S fun zs S' => P (ys ++ zs) S'
  | [], i, ys, S, h0, _, he => by
    show P (ys ++ []) S
    rw [List.append_nil]; exact he _ _ h0
  | x :: r, i, ys, S, h0, hs, he => by
    rw [mapF, W_bind]
    refine (hs i ys x S List.mem_cons_self h0).mono fun o S1 h1 => ?_
    rw [W_bind]
    have ih := w_mapF_inv (f := f) (P := P) I (xs := r) h1 (fun i ys x S hx hi => hs i ys x S (List.mem_cons_of_mem _ hx) hi) (fun zs S2 h2 => he zs S2 (by rw [List.length_cons]; rwa [Nat.add_assoc, Nat.add_comm 1] at h2))
    refine ih.mono fun zs S2 h2 => ?_
    rw [W_ret]
    cases o with
    | none => exact h2
    | some y => simpa using h2
/-- a comprehension whose turns change the store -/
theorem w_mapF {f : D → M (Option D)} {P : List D → Store → Prop} (I : Nat → List D → Store → Prop) {xs : List D} (h0 : I 0 [] S) (hs : ∀ i ys x S, x ∈ xs → I i ys S → W (f x) S fun o S' => I (i + 1) (match o with | some y => ys ++ [y] | none => ys) S')
    (he : ∀ ys S, I xs.length ys S → P ys S) : W (mapF f xs) S P := by
  have z := w_mapF_inv (P := P) I h0 hs (by rw [Nat.zero_add]; exact he)
  simpa using z
theorem w_for {f : D → Env → M SR} (I : List D → Env → Store → Prop) : ∀ {xs : List D} {ρ : Env} {S : Store} (_ : I xs ρ S) (_ : ∀ x r ρ S, I (x :: r) ρ S → W (f x ρ) S fun o S' => match o with
    | .nx ρ' => I r ρ' S'
    | .ct ρ' => I r ρ' S'
    | .brk ρ' => Z (.nx ρ') S'
    | .ret v => Z (.ret v) S') (_ : ∀ ρ S, I [] ρ S → Z (.nx ρ) S), W (forF f xs ρ) S Z
  | [], ρ, S, h0, _, he => he ρ S h0
  | x :: r, ρ, S, h0, hs, he => by
    rw [forF, W_bind]
    refine (hs x r ρ S h0).mono fun o S1 h1 => ?_
    cases o with
    | nx ρ' => exact w_for I (xs := r) h1 hs he
    | ct ρ' => exact w_for I (xs := r) h1 hs he
    | brk ρ' => exact h1
    | ret v => exact h1
theorem w_callF {F : List Fn} {SH : List Cf} {n i : Nat} {fn : Fn} {xs : List D} (h : F[i]? = some fn) : W (callF G F SH (n + 1) i xs) S Q = W (body G (callS G F SH n) fn xs) S Q := by
  rw [callF, W_bind, h]; rfl
theorem w_callS {F : List Fn} {SH : List Cf} {n s : Nat} {c : Cf} {xs : List D} (h : SH[s]? = some c) : W (callS G F SH n s xs) S Q = W (callF G F SH n c.f (if c.kw then pick c.src xs else xs)) S Q := by
  unfold callS; rw [W_bind, h]; rfl
theorem allB_map : ∀ bs : List Bool, allB (bs.map .bl) = some bs
  | [] => rfl
  | b :: r => by rw [List.map_cons, allB, allB_map r]; rfl
theorem allS_map : ∀ bs : List (List Nat), allS (bs.map .str) = some bs
  | [] => rfl
  | b :: r => by rw [List.map_cons, allS, allS_map r]; rfl
theorem body_for {tg : List Nat} {b : Ss} {x : D} : W ((fun x ρ => (M.opt (put ρ tg x)).bind fun ρ' => execs G call b ρ') x ρ) S Z = W (M.opt (put ρ tg x)) S fun ρ' S => WSs G call b ρ' S Z := by
  show W (M.bind _ _) S Z = _
  rw [W_bind]; rfl
end
end Dv

set_option Elab.async false
set_option linter.all false
set_option maxRecDepth 100000
set_option maxHeartbeats 4000000
namespace K02
open PySem PySem.Spec PyProof.Rows L2 Dv
def top (i : Nat) : Stmt := PySem.Challenge.pw_standfont_k02_names.main.body.getD i (.Pass ⟨0, 0, 0, 0⟩)
/-- is_name -/
def f0 : Fn := ⟨1, 2, (.cons (.ret (.and (.chain .le .le (.int 1) (.b1 .len (.var 0)) (.glob 0)) (.b1 .all (.comp [1] (.cmp .in_ (.var 1) (.glob 1)) [1] (.over (.var 0)) .none)))) .nil)⟩
/-- _law_deal -/
def f1 : Fn := ⟨1, 4, (.cons (.set 1 (.comp [2] (.b1 .int (.var 2)) [2] (.over (.cut (.var 0) .none (.some (.int 63)))) .none)) (.cons (.set 3 (.bin .add (.int 5788) (.bin .mul (.int 89) (.b1 .len (.var 1))))) (.cons (.for_ [2] (.over (.var 1)) (.cons (.set 3 (.bin .mod (.b1 .int (.bin .add (.bin .mul (.var 3) (.int 6841)) (.var 2))) (.int 2147483489))) .nil)) (.cons (.ret (.lst (.cons (.var 1) (.cons (.int 0) (.cons (.int 0) (.cons (.var 3) .nil)))))) .nil))))⟩
/-- _law_pick -/
def f2 : Fn := ⟨2, 6, (.cons (.if_ (.cmp .lt (.idx (.var 0) (.int 2)) (.int 2)) (.cons (.putR (.var 0) (.int 1) (.bin .add (.idx (.var 0) (.int 1)) (.int 1))) (.cons (.set 2 (.bin .add (.idx (.var 0) (.int 3)) (.bin .mul (.idx (.var 0) (.int 1)) (.int 8779)))) (.cons (.if_ (.cmp .le (.idx (.var 0) (.int 1)) (.b1 .len (.idx (.var 0) (.int 0)))) (.cons (.set 2 (.idx (.idx (.var 0) (.int 0)) (.bin .sub (.idx (.var 0) (.int 1)) (.int 1)))) .nil) .nil) (.cons (.if_ (.or (.cmp .gt (.idx (.var 0) (.int 1)) (.b1 .len (.idx (.var 0) (.int 0)))) (.cmp .lt (.var 2) (.bin .pow (.int 10) (.int 18)))) (.cons (.set 3 (.bin .mod (.b1 .int (.bin .add (.bin .add (.bin .mul (.var 2) (.int 44123)) (.bin .mul (.idx (.var 0) (.int 1)) (.int 37561))) (.idx (.var 0) (.int 3)))) (.int 2147483647))) (.cons (.set 4 (.bin .mod (.b1 .int (.bin .add (.bin .mul (.var 3) (.var 3)) (.bin .mul (.idx (.var 0) (.int 1)) (.int 52361)))) (.int 998244353))) (.cons (.ret (.bin .mod (.bin .fdiv (.bin .mod (.b1 .int (.bin .add (.bin .mul (.var 4) (.int 49297)) (.var 3))) (.int 2147483629)) (.int 17)) (.var 1))) .nil))) .nil) (.cons (.putR (.var 0) (.int 2) (.var 2)) .nil))))) .nil) (.cons (.set 5 (.bin .mod (.b1 .int (.idx (.var 0) (.int 2))) (.var 1))) (.cons (.putR (.var 0) (.int 2) (.bin .fdiv (.b1 .int (.idx (.var 0) (.int 2))) (.var 1))) (.cons (.ret (.var 5)) .nil))))⟩
/-- _law_of -/
def f3 : Fn := ⟨2, 2, (.cons (.ret (.idx (.var 1) (.call 0 (.cons (.var 0) (.cons (.b1 .len (.var 1)) .nil))))) .nil)⟩
/-- _law_same -/
def f4 : Fn := ⟨2, 4, (.cons (.if_ (.isN (.var 1)) (.cons (.ret (.isN (.var 0))) .nil) .nil) (.cons (.if_ (.or (.isin (.var 1) [.bool]) (.isin (.var 0) [.bool])) (.cons (.ret (.and (.isin (.var 1) [.bool]) (.and (.isin (.var 0) [.bool]) (.cmp .eq (.var 0) (.var 1))))) .nil) .nil) (.cons (.if_ (.isin (.var 1) [.int, .str]) (.cons (.ret (.and (.isin (.var 0) [.int, .str]) (.and (.cmp .eq (.isin (.var 0) [.int]) (.isin (.var 1) [.int])) (.cmp .eq (.var 0) (.var 1))))) .nil) .nil) (.cons (.if_ (.or (.cmp .ne (.isin (.var 1) [.list]) (.isin (.var 0) [.list])) (.cmp .ne (.isin (.var 1) [.tuple]) (.isin (.var 0) [.tuple]))) (.cons (.ret (.bl false)) .nil) .nil) (.cons (.ret (.and (.cmp .eq (.b1 .len (.var 0)) (.b1 .len (.var 1))) (.b1 .all (.comp [2, 3] (.call 1 (.cons (.var 2) (.cons (.var 3) .nil))) [2, 3] (.zip (.var 0) (.var 1)) .none)))) .nil)))))⟩
/-- law -/
def f5 : Fn := ⟨1, 8, (.cons (.sha 1 (.call 2 (.cons (.var 0) .nil))) (.cons (.for_ [2] (.range (.int 12)) (.cons (.set 3 (.join (.str []) (.comp [6] (.call 3 (.cons (.var 1) (.cons (.str [97, 98, 99, 100, 101, 102, 103, 104, 105, 106, 107, 108, 109, 110, 111, 112, 113, 114, 115, 116, 117, 118, 119, 120, 121, 122]) .nil))) [6] (.range (.call 0 (.cons (.var 1) (.cons (.int 9) .nil)))) .none))) (.cons (.set 4 (.call 0 (.cons (.var 1) (.cons (.bin .add (.b1 .len (.var 3)) (.int 1)) .nil)))) (.cons (.set 3 (.bin .add (.bin .add (.cut (.var 3) .none (.some (.var 4))) (.call 3 (.cons (.var 1) (.cons (.lst (.cons (.str []) (.cons (.str []) (.cons (.str []) (.cons (.str [65]) (.cons (.str [48]) (.cons (.str [32]) (.cons (.str [95]) (.cons (.str [45]) (.cons (.str [10]) (.cons (.str [122]) .nil))))))))))) .nil)))) (.cut (.var 3) (.some (.var 4)) .none))) (.cons (.set 5 (.and (.chain .le .le (.int 1) (.b1 .len (.var 3)) (.int 6)) (.b1 .all (.comp [7] (.cmp .in_ (.var 7) (.str [97, 98, 99, 100, 101, 102, 103, 104, 105, 106, 107, 108, 109, 110, 111, 112, 113, 114, 115, 116, 117, 118, 119, 120, 121, 122])) [7] (.over (.var 3)) .none)))) (.cons (.if_ (.not (.call 1 (.cons (.lst (.cons (.call 5 (.cons (.var 3) .nil)) (.cons (.callK 4 0 1 .nil (.cons (.var 3) .nil)) .nil))) (.cons (.lst (.cons (.var 5) (.cons (.var 5) .nil))) .nil)))) (.cons (.ret (.bl false)) .nil) .nil) .nil)))))) (.cons (.ret (.and (.call 5 (.cons (.str [97, 97, 97, 97, 97, 97]) .nil)) (.and (.not (.call 5 (.cons (.str [97, 97, 97, 97, 97, 97, 97]) .nil))) (.not (.call 5 (.cons (.str []) .nil)))))) .nil)))⟩
def r0 : Dv.Row := ⟨"is_name", top 3, ["text", "letter"], ["text"]⟩
def r1 : Dv.Row := ⟨"_law_deal", top 5, ["_law_script", "_law_cells", "_law_cell", "_law_mark"], ["_law_script"]⟩
def r2 : Dv.Row := ⟨"_law_pick", top 6, ["_law_deal_here", "_law_many", "_law_cell", "_law_early", "_law_late", "_law_drawn"], ["_law_deal_here", "_law_many"]⟩
def r3 : Dv.Row := ⟨"_law_of", top 7, ["_law_deal_here", "_law_items"], ["_law_deal_here", "_law_items"]⟩
def r4 : Dv.Row := ⟨"_law_same", top 8, ["_law_found", "_law_due", "_law_one", "_law_two"], ["_law_found", "_law_due"]⟩
def r5 : Dv.Row := ⟨"law", top 9, ["_law_script", "_law_deal_here", "_law_turn", "_law_text_z", "_law_spot", "_law_due", "_law_k", "_law_sign"], ["_law_script"]⟩
def rows : List Dv.Row := [r0, r1, r2, r3, r4, r5]
def fns : List Fn := [f0, f1, f2, f3, f4, f5]
def shp : List Shp := [⟨"_law_pick", 0, []⟩, ⟨"_law_same", 0, []⟩, ⟨"_law_deal", 0, []⟩, ⟨"_law_of", 0, []⟩, ⟨"is_name", 0, ["text"]⟩, ⟨"is_name", 0, []⟩]
def cfs : List Cf := [⟨2, false, []⟩, ⟨4, false, []⟩, ⟨1, false, []⟩, ⟨3, false, []⟩, ⟨0, true, [0]⟩, ⟨0, false, []⟩]
def gls : List Str := ["MOST_LETTERS", "LETTERS"]
def gvs : List D := [.int 6, .str [97, 98, 99, 100, 101, 102, 103, 104, 105, 106, 107, 108, 109, 110, 111, 112, 113, 114, 115, 116, 117, 118, 119, 120, 121, 122]]
def frees : List Str := ["len", "all", "int", "isinstance", "bool", "str", "list", "tuple", "zip", "range"]
def tab : Tab := ⟨rows, fns, shp, cfs, gls, frees⟩
theorem tab_ok : tab.ok = true := by kernel_rfl
theorem gv_ok : okGvs tab.gls gvs = true := by kernel_rfl
theorem rb0 : RowB tab 0 r0 := ⟨fun _ _ _ _ _ _ us hl => match us, hl with | [_], _ => rfl, kwAll_ok (t := tab) (i := 0) (r := r0) (ss := shp) (cs := cfs) ⟨fun h => absurd h (by decide), fun h => absurd h (by decide), fun h => absurd h (by decide), fun h => absurd h (by decide), fun _ _ _ _ _ _ _ _ us ws l1 l2 => match us, ws, l1, l2 with | [], [_], _, _ => rfl, fun _ h => absurd rfl h, trivial⟩⟩
theorem rb1 : RowB tab 1 r1 := .plain (by kernel_rfl) (fun _ _ _ _ _ _ us hl => match us, hl with | [_], _ => rfl)
theorem rb2 : RowB tab 2 r2 := .plain (by kernel_rfl) (fun _ _ _ _ _ _ us hl => match us, hl with | [_, _], _ => rfl)
theorem rb3 : RowB tab 3 r3 := .plain (by kernel_rfl) (fun _ _ _ _ _ _ us hl => match us, hl with | [_, _], _ => rfl)
theorem rb4 : RowB tab 4 r4 := .plain (by kernel_rfl) (fun _ _ _ _ _ _ us hl => match us, hl with | [_, _], _ => rfl)
theorem rb5 : RowB tab 5 r5 := .plain (by kernel_rfl) (fun _ _ _ _ _ _ us hl => match us, hl with | [_], _ => rfl)
theorem rb : ∀ (i : Nat) (r : Dv.Row), tab.rows[i]? = some r → RowB tab i r
  | 0, _, rfl => rb0
  | 1, _, rfl => rb1
  | 2, _, rfl => rb2
  | 3, _, rfl => rb3
  | 4, _, rfl => rb4
  | 5, _, rfl => rb5
  | n + 6, r, h => by cases h
def loose : List Str := ["__name__", "LETTERS", "MOST_LETTERS", "is_name", "__name__", "_law_deal", "_law_pick", "_law_of", "_law_same"]
abbrev R : PySem.W.OpenRow := PySem.W.OpenLaw.row PySem.Challenge.rw_standfont_k02_names
def fa : List He.Fa := tab.facts gvs
def fd : List He.DefD := tab.rows.map Dv.defOf
abbrev hk : PySem.W.Hook := hookK 4 fa fd
def ob (s : PySem.W.SharedT) : AlK := obsKG 4 fa fd (HandSHeadRun.getT s)
theorem ob_eq (s : PySem.W.SharedT) : ob s = hk.obs s.abs := obsKG_eq (HandSHeadRun.getT_eq s)
theorem run (w : World) : HandSHeadRun.RunEq R (PySem.W.view R.prog [9]) hk ob 4000 loose w := by
  intro os
  kernel_rfl
end K02
open PySem PySem.W PySem.Calls PyProof.Rows
theorem K02.holds (hl : ∀ ns : List Int, ns.length ≤ 63 → ∃ b S', Dv.callF K02.gvs K02.fns K02.cfs 12 5 [.lst (ns.map .int)] [] = .ok (.bl true, b) S') : PySem.Challenge.rw_standfont_k02_names.Holds := by
  w_on; o_law
  refine HandSHeadRun.head_any (r := OpenLaw.row PySem.Challenge.rw_standfont_k02_names) (q := view (OpenLaw.row PySem.Challenge.rw_standfont_k02_names).prog [9]) (H := K02.hk) (ob := K02.ob) (M := 4000) (loose := K02.loose) (d := HandSHeadRun.topDef (OpenLaw.row PySem.Challenge.rw_standfont_k02_names).prog 9) (kwd := []) K02.ob_eq
    (by kernel_rfl) (fun s => by kernel_rfl) K02.run (by kernel_rfl) (by kernel_rfl) (by kernel_rfl) (by rfl) (by first | assumption | decide +kernel) (by decide +kernel) ⟨rfl, rfl, rfl, rfl, rfl, by decide +kernel⟩ ?hw ?hc
  case hw => w_witness2
  case hc =>
    refine L2.walk_ofE (l := PySem.Challenge.rw_standfont_k02_names) (n := 63) (k := 12) (x := "_law_script") (CX := C8.CX0) rfl (by decide) (by kernel_rfl) ⟨rfl, by decide, by decide⟩ ?F (fun _ _ _ _ z => z)
    intro w mg fa h Y G hmg0
    obtain ⟨K, KX, kl, c⟩ := Y
    have hmg : mg ("law" : PySem.Str) = some (.ref fa) := by
      have e : (HandSHeadRun.topDef (OpenLaw.row PySem.Challenge.rw_standfont_k02_names).prog 9).name = ("law" : PySem.Str) := by kernel_rfl
      rw [← e]
      exact hmg0
    obtain ⟨fd, hb, hF⟩ := Dv.law_fn (P := (PySem.Challenge.rw_standfont_k02_names).prog) (w := w) (k := 12) (il := 5) (rl := K02.r5) (t := K02.tab) (gvs := K02.gvs) K02.tab_ok K02.gv_ok K02.rb rfl rfl rfl KX kl G c hmg
    exact ⟨K, fd, _, KX, hb, fun H a ns h1 hO hS => Dv.law_sp hl H a ns h1 hO hS, fun base _ _ => hF base⟩
namespace K02
-- statements of the top: 10; law: def 5, top 9
end K02

set_option Elab.async false
set_option linter.all false
set_option maxRecDepth 100000
set_option maxHeartbeats 4000000
namespace Dv
open K02
/-- how a deal stands -/
def Deal (d : D) : Prop := ∃ (cs : List Int) (a b m : Int), d = .lst [.lst (cs.map .int), .int a, .int b, .int m] ∧ 0 ≤ a
theorem fmod_nn {x c : Int} (h : 0 < c) : 0 ≤ x.fmod c := by rw [Int.fmod_eq_emod_of_nonneg _ (by omega)]; exact Int.emod_nonneg _ (by omega)
theorem fmod_lt {x c : Int} (h : 0 < c) : x.fmod c < c := by rw [Int.fmod_eq_emod_of_nonneg _ (by omega)]; exact Int.emod_lt_of_pos _ h
theorem sq_guard {x : Int} (h0 : 0 ≤ x) (h1 : x < 2147483647) : (-2 ^ 64 < x ∧ x < 2 ^ 64 ∨ -2 ^ 64 < x ∧ x < 2 ^ 64) := by omega
theorem pick_body {G : List D} {call : Nat → List D → M (D × Bool)} {S : Store} {n : Nat} {d : D} {many : Int} (hn : S[n]? = some d) (hd : Deal d) (h0 : 0 < many) (h1 : many < 1073741824) :
    W (body G call f2 [.ref n, .int many]) S fun v S' => ∃ v' d', v = (.int v', false) ∧ S' = S.set n d' ∧ Deal d' ∧ 0 ≤ v' ∧ v' < many := by
  obtain ⟨cs, a, b, m, rfl, ha⟩ := hd
  have hl := (List.getElem?_eq_some_iff.mp hn).1
  have hs : ∀ d', (S.set n d')[n]? = some d' := fun d' => List.getElem?_set_self hl
  have hss : ∀ d d', (S.set n d).set n d' = S.set n d' := fun d d' => List.set_set ..
  have hix : a + 1 ≤ (cs.map D.int).length → ∃ x : Int, ∀ (S : Store) (P : D → Store → Prop), W (M.opt ((ixN (cs.map D.int).length (a + 1 - 1)).bind fun j => (cs.map D.int)[j]?)) S P = P (.int x) S := fun h => by
    rw [List.length_map] at h
    have hz : (a + 1 - 1).toNat < cs.length := by omega
    refine ⟨cs[(a + 1 - 1).toNat], fun S P => w_ix (by omega) ?_⟩
    rw [List.getElem?_map, List.getElem?_eq_getElem hz]; rfl
  have hf : ∀ x y z w : Int, ((10 : Int) ^ 18 : Int) = 1000000000000000000 := fun _ _ _ _ => by decide
  rw [w_body]
  unfold f2
  by_cases hc : a + 1 ≤ (cs.map D.int).length
  · obtain ⟨x, hx⟩ := hix hc
    have hc' : ¬ ((cs.map D.int).length : Int) < a + 1 := by omega
    simp only [W_ret, W_bind, W_guard, W_some, W_v, W_f, wv_non, wv_bl, wv_int, wv_str, wv_tup, wv_lst, wv_ref, w_objOf, w_setO, w_newO, w_asL, w_asI, w_asB, w_rd, w_pk, w_ownOf, p_var, p_non, p_bl, p_int, p_str, p_glob, p_bin, p_neg, p_cmp, p_isN, p_isnotN, p_chain, p_and, p_or, p_not, p_ite, p_tup, p_lst, p_idx, p_cut, p_b1, p_isin, p_join, p_call, p_callK, p_comp, e_var, e_non, e_bl, e_int, e_str, e_glob, e_bin, e_neg, e_cmp, e_isN, e_isnotN, e_chain, e_and, e_or, e_not, e_ite, e_tup, e_lst, e_idx, e_cut, e_b1, e_isin, e_join, e_call, e_callK, e_comp, es_nil, es_cons, eo_none, eo_some, b_none, b_some, i_over', i_range', i_range2', i_zip', i_enum', it_lst, it_tup, it_str, z_lst, z_tup, en_lst, o_addI, o_addS, o_addL, o_sub, o_mul, o_mulL, o_fdiv, o_mod, o_pow, k_lt, k_le, k_gt, k_ge, k_eq, k_ne, k_inS, k_niS, k_V, f_lenL, f_lenT, f_lenS, f_intI, f_intB, f_listL, f_listT, f_all, f_any, x_lst, x_tup, x_str, c_L, c_S, j_L, w_execs, s_nil', s_cons', t_nx, t_ret, t_brk, t_ct, x_set, x_own, x_sha, x_retV, x_retN, x_if, x_for, x_expr, x_app, x_putI, x_putR, x_frz, x_pass, x_brk, x_cont, r_non, r_bl, r_int, r_str, r_glob, r_bin, r_neg, r_cmp, r_isN, r_isnotN, r_chain, r_and, r_or, r_not, r_ite, r_tup, r_lst, r_idx, r_cut, r_b1, r_isin, r_join, r_call, r_callK, r_comp, u_non, u_bl, u_int, u_str, u_ref, ixN_nn, fin_ret, fin_nx, List.map_cons, List.map_nil, List.cons_append, List.nil_append, List.append_nil, List.set_cons_succ, List.set_cons_zero, List.getElem?_cons_succ, List.getElem?_cons_zero, List.length_cons, List.length_nil, List.replicate_succ, List.replicate_zero, Option.some.injEq, Sl.val.injEq, Sl.own.injEq, D.lst.injEq, D.int.injEq, reduceCtorEq, or_false, false_or, and_true, true_and, exists_eq_left', exists_eq_left, Nat.reduceSub, Nat.reduceAdd, Nat.reduceLT, Nat.reduceLeDiff, Sl.pair, put, wipe, D.isNon, Bool.not_true, Bool.not_false, Option.bind_some, Int.reduceToNat, Int.reduceLE, Int.reduceLT, Int.cast_ofNat_Int, Int.natCast_add, decide_eq_true_eq, ite_true, ite_false, if_true, if_false, Bool.false_eq_true, hn, hs, hss, hx, hc, hc']
    have n1 : many ≠ 0 := by omega
    have n2 : many.natAbs < 1073741824 := by omega
    split
    · refine ⟨by omega, by decide, ?_⟩
      split
      · exact ⟨by omega, by omega, by decide, sq_guard (fmod_nn (by decide)) (fmod_lt (by decide)), by omega, by decide, by omega, by decide, by decide, n1, _, _, rfl, rfl, ⟨cs, _, _, _, rfl, by omega⟩, fmod_nn h0, fmod_lt h0⟩
      · exact ⟨n1, ⟨n1, n2⟩, _, _, rfl, rfl, ⟨cs, _, _, _, rfl, by omega⟩, fmod_nn h0, fmod_lt h0⟩
    · exact ⟨n1, ⟨n1, n2⟩, _, _, rfl, rfl, ⟨cs, _, _, _, rfl, by omega⟩, fmod_nn h0, fmod_lt h0⟩
  · have hc' : ((cs.map D.int).length : Int) < a + 1 := by omega
    simp only [W_ret, W_bind, W_guard, W_some, W_v, W_f, wv_non, wv_bl, wv_int, wv_str, wv_tup, wv_lst, wv_ref, w_objOf, w_setO, w_newO, w_asL, w_asI, w_asB, w_rd, w_pk, w_ownOf, p_var, p_non, p_bl, p_int, p_str, p_glob, p_bin, p_neg, p_cmp, p_isN, p_isnotN, p_chain, p_and, p_or, p_not, p_ite, p_tup, p_lst, p_idx, p_cut, p_b1, p_isin, p_join, p_call, p_callK, p_comp, e_var, e_non, e_bl, e_int, e_str, e_glob, e_bin, e_neg, e_cmp, e_isN, e_isnotN, e_chain, e_and, e_or, e_not, e_ite, e_tup, e_lst, e_idx, e_cut, e_b1, e_isin, e_join, e_call, e_callK, e_comp, es_nil, es_cons, eo_none, eo_some, b_none, b_some, i_over', i_range', i_range2', i_zip', i_enum', it_lst, it_tup, it_str, z_lst, z_tup, en_lst, o_addI, o_addS, o_addL, o_sub, o_mul, o_mulL, o_fdiv, o_mod, o_pow, k_lt, k_le, k_gt, k_ge, k_eq, k_ne, k_inS, k_niS, k_V, f_lenL, f_lenT, f_lenS, f_intI, f_intB, f_listL, f_listT, f_all, f_any, x_lst, x_tup, x_str, c_L, c_S, j_L, w_execs, s_nil', s_cons', t_nx, t_ret, t_brk, t_ct, x_set, x_own, x_sha, x_retV, x_retN, x_if, x_for, x_expr, x_app, x_putI, x_putR, x_frz, x_pass, x_brk, x_cont, r_non, r_bl, r_int, r_str, r_glob, r_bin, r_neg, r_cmp, r_isN, r_isnotN, r_chain, r_and, r_or, r_not, r_ite, r_tup, r_lst, r_idx, r_cut, r_b1, r_isin, r_join, r_call, r_callK, r_comp, u_non, u_bl, u_int, u_str, u_ref, ixN_nn, fin_ret, fin_nx, List.map_cons, List.map_nil, List.cons_append, List.nil_append, List.append_nil, List.set_cons_succ, List.set_cons_zero, List.getElem?_cons_succ, List.getElem?_cons_zero, List.length_cons, List.length_nil, List.replicate_succ, List.replicate_zero, Option.some.injEq, Sl.val.injEq, Sl.own.injEq, D.lst.injEq, D.int.injEq, reduceCtorEq, or_false, false_or, and_true, true_and, exists_eq_left', exists_eq_left, Nat.reduceSub, Nat.reduceAdd, Nat.reduceLT, Nat.reduceLeDiff, Sl.pair, put, wipe, D.isNon, Bool.not_true, Bool.not_false, Option.bind_some, Int.reduceToNat, Int.reduceLE, Int.reduceLT, Int.cast_ofNat_Int, Int.natCast_add, decide_eq_true_eq, ite_true, ite_false, if_true, if_false, Bool.false_eq_true, hn, hs, hss, hc, hc']
    have n1 : many ≠ 0 := by omega
    have n2 : many.natAbs < 1073741824 := by omega
    split
    · exact ⟨by omega, by omega, by omega, by decide, sq_guard (fmod_nn (by decide)) (fmod_lt (by decide)), by omega, by decide, by omega, by decide, by decide, n1, _, _, rfl, rfl, ⟨cs, _, _, _, rfl, by omega⟩, fmod_nn h0, fmod_lt h0⟩
    · exact ⟨n1, ⟨n1, n2⟩, _, _, rfl, rfl, ⟨cs, _, _, _, rfl, by omega⟩, fmod_nn h0, fmod_lt h0⟩
end Dv

set_option Elab.async false
set_option linter.all false
set_option maxRecDepth 100000
set_option maxHeartbeats 4000000
namespace Dv
open K02
theorem cutL_map {α β : Type} (f : α → β) (xs : List α) (l h : Option Int) : cutL (xs.map f) l h = (cutL xs l h).map f := by
  unfold cutL; rw [List.length_map, List.map_take, List.map_drop]
def intOf : D → Option D
  | .int i => some (.int i)
  | _ => none
theorem intOf_map (cs : List Int) : (cs.map D.int).filterMap intOf = cs.map D.int := by
  induction cs with
  | nil => rfl
  | cons c r ih => rw [List.map_cons, List.filterMap_cons, ih]; rfl
theorem cutL_len {α : Type} (xs : List α) (l h : Option Int) : (cutL xs l h).length ≤ xs.length := by
  unfold cutL; rw [List.length_take, List.length_drop]; omega
theorem deal_body {G : List D} {call : Nat → List D → M (D × Bool)} {S : Store} {ns : List Int} (hl : ns.length ≤ 16777216) :
    W (body G call f1 [.lst (ns.map .int)]) S fun v S' => ∃ d, v = (d, true) ∧ S' = S ∧ Deal d := by
  rw [w_body]
  unfold f1
  simp only [W_ret, W_bind, W_guard, W_some, W_v, W_f, wv_non, wv_bl, wv_int, wv_str, wv_tup, wv_lst, wv_ref, w_objOf, w_setO, w_newO, w_asL, w_asI, w_asB, w_rd, w_pk, w_ownOf, p_var, p_non, p_bl, p_int, p_str, p_glob, p_bin, p_neg, p_cmp, p_isN, p_isnotN, p_chain, p_and, p_or, p_not, p_ite, p_tup, p_lst, p_idx, p_cut, p_b1, p_isin, p_join, p_call, p_callK, p_comp, e_var, e_non, e_bl, e_int, e_str, e_glob, e_bin, e_neg, e_cmp, e_isN, e_isnotN, e_chain, e_and, e_or, e_not, e_ite, e_tup, e_lst, e_idx, e_cut, e_b1, e_isin, e_join, e_call, e_callK, e_comp, es_nil, es_cons, eo_none, eo_some, b_none, b_some, i_over', i_range', i_range2', i_zip', i_enum', it_lst, it_tup, it_str, z_lst, z_tup, en_lst, o_addI, o_addS, o_addL, o_sub, o_mul, o_mulL, o_fdiv, o_mod, o_pow, k_lt, k_le, k_gt, k_ge, k_eq, k_ne, k_inS, k_niS, k_V, f_lenL, f_lenT, f_lenS, f_intI, f_intB, f_listL, f_listT, f_all, f_any, x_lst, x_tup, x_str, c_L, c_S, j_L, w_execs, s_nil', s_cons', t_nx, t_ret, t_brk, t_ct, x_set, x_own, x_sha, x_retV, x_retN, x_if, x_for, x_expr, x_app, x_putI, x_putR, x_frz, x_pass, x_brk, x_cont, r_non, r_bl, r_int, r_str, r_glob, r_bin, r_neg, r_cmp, r_isN, r_isnotN, r_chain, r_and, r_or, r_not, r_ite, r_tup, r_lst, r_idx, r_cut, r_b1, r_isin, r_join, r_call, r_callK, r_comp, u_non, u_bl, u_int, u_str, u_ref, ixN_nn, fin_ret, fin_nx, List.map_cons, List.map_nil, List.cons_append, List.nil_append, List.append_nil, List.set_cons_succ, List.set_cons_zero, List.getElem?_cons_succ, List.getElem?_cons_zero, List.length_cons, List.length_nil, List.replicate_succ, List.replicate_zero, Option.some.injEq, Sl.val.injEq, Sl.own.injEq, D.lst.injEq, D.int.injEq, reduceCtorEq, or_false, false_or, and_true, true_and, exists_eq_left', exists_eq_left, Nat.reduceSub, Nat.reduceAdd, Nat.reduceLT, Nat.reduceLeDiff, Sl.pair, put, wipe, D.isNon, Bool.not_true, Bool.not_false, Option.bind_some, Int.reduceToNat, Int.reduceLE, Int.reduceLT, Int.cast_ofNat_Int, Int.natCast_add, decide_eq_true_eq, ite_true, ite_false, if_true, if_false, Bool.false_eq_true]
  refine And.intro ?_ ?_
  · rw [cutL_map, List.length_map]; exact Nat.le_trans (cutL_len _ _ _) hl
  have hcl : (cutL ns none (some 63)).length ≤ 16777216 := Nat.le_trans (cutL_len _ _ _) hl
  rw [w_mapF_pure (g := intOf) (fun x hx => W.pure fun R hR => ?_)]
  · rw [cutL_map, intOf_map]
    generalize cutL ns none (some 63) = cs at hcl
    refine ⟨by omega, rfl, by rw [List.length_map]; exact hcl, ?_⟩
    refine w_for (fun r ρ S1 => S1 = S ∧ ∃ (rs : List Int) (x : Option Sl) (m : Int), r = rs.map .int ∧ ρ = [some (.val (.lst (ns.map .int))), some (.val (.lst (cs.map .int))), x, some (.val (.int m))]) ⟨rfl, cs, _, _, rfl, rfl⟩ ?_ ?_
    · rintro x r ρ S1 ⟨rfl, rs, y, m, hr, rfl⟩
      cases rs with
      | nil => cases hr
      | cons z rs =>
        cases hr
        simp only [W_bind, W_ret, W_bind, W_guard, W_some, W_v, W_f, wv_non, wv_bl, wv_int, wv_str, wv_tup, wv_lst, wv_ref, w_objOf, w_setO, w_newO, w_asL, w_asI, w_asB, w_rd, w_pk, w_ownOf, p_var, p_non, p_bl, p_int, p_str, p_glob, p_bin, p_neg, p_cmp, p_isN, p_isnotN, p_chain, p_and, p_or, p_not, p_ite, p_tup, p_lst, p_idx, p_cut, p_b1, p_isin, p_join, p_call, p_callK, p_comp, e_var, e_non, e_bl, e_int, e_str, e_glob, e_bin, e_neg, e_cmp, e_isN, e_isnotN, e_chain, e_and, e_or, e_not, e_ite, e_tup, e_lst, e_idx, e_cut, e_b1, e_isin, e_join, e_call, e_callK, e_comp, es_nil, es_cons, eo_none, eo_some, b_none, b_some, i_over', i_range', i_range2', i_zip', i_enum', it_lst, it_tup, it_str, z_lst, z_tup, en_lst, o_addI, o_addS, o_addL, o_sub, o_mul, o_mulL, o_fdiv, o_mod, o_pow, k_lt, k_le, k_gt, k_ge, k_eq, k_ne, k_inS, k_niS, k_V, f_lenL, f_lenT, f_lenS, f_intI, f_intB, f_listL, f_listT, f_all, f_any, x_lst, x_tup, x_str, c_L, c_S, j_L, w_execs, s_nil', s_cons', t_nx, t_ret, t_brk, t_ct, x_set, x_own, x_sha, x_retV, x_retN, x_if, x_for, x_expr, x_app, x_putI, x_putR, x_frz, x_pass, x_brk, x_cont, r_non, r_bl, r_int, r_str, r_glob, r_bin, r_neg, r_cmp, r_isN, r_isnotN, r_chain, r_and, r_or, r_not, r_ite, r_tup, r_lst, r_idx, r_cut, r_b1, r_isin, r_join, r_call, r_callK, r_comp, u_non, u_bl, u_int, u_str, u_ref, ixN_nn, fin_ret, fin_nx, List.map_cons, List.map_nil, List.cons_append, List.nil_append, List.append_nil, List.set_cons_succ, List.set_cons_zero, List.getElem?_cons_succ, List.getElem?_cons_zero, List.length_cons, List.length_nil, List.replicate_succ, List.replicate_zero, Option.some.injEq, Sl.val.injEq, Sl.own.injEq, D.lst.injEq, D.int.injEq, reduceCtorEq, or_false, false_or, and_true, true_and, exists_eq_left', exists_eq_left, Nat.reduceSub, Nat.reduceAdd, Nat.reduceLT, Nat.reduceLeDiff, Sl.pair, put, wipe, D.isNon, Bool.not_true, Bool.not_false, Option.bind_some, Int.reduceToNat, Int.reduceLE, Int.reduceLT, Int.cast_ofNat_Int, Int.natCast_add, decide_eq_true_eq, ite_true, ite_false, if_true, if_false, Bool.false_eq_true]
        exact ⟨by omega, by decide, rs, _, _, rfl, rfl⟩
    · rintro ρ S1 ⟨rfl, rs, y, m, hr, rfl⟩
      simp only [W_ret, W_bind, W_guard, W_some, W_v, W_f, wv_non, wv_bl, wv_int, wv_str, wv_tup, wv_lst, wv_ref, w_objOf, w_setO, w_newO, w_asL, w_asI, w_asB, w_rd, w_pk, w_ownOf, p_var, p_non, p_bl, p_int, p_str, p_glob, p_bin, p_neg, p_cmp, p_isN, p_isnotN, p_chain, p_and, p_or, p_not, p_ite, p_tup, p_lst, p_idx, p_cut, p_b1, p_isin, p_join, p_call, p_callK, p_comp, e_var, e_non, e_bl, e_int, e_str, e_glob, e_bin, e_neg, e_cmp, e_isN, e_isnotN, e_chain, e_and, e_or, e_not, e_ite, e_tup, e_lst, e_idx, e_cut, e_b1, e_isin, e_join, e_call, e_callK, e_comp, es_nil, es_cons, eo_none, eo_some, b_none, b_some, i_over', i_range', i_range2', i_zip', i_enum', it_lst, it_tup, it_str, z_lst, z_tup, en_lst, o_addI, o_addS, o_addL, o_sub, o_mul, o_mulL, o_fdiv, o_mod, o_pow, k_lt, k_le, k_gt, k_ge, k_eq, k_ne, k_inS, k_niS, k_V, f_lenL, f_lenT, f_lenS, f_intI, f_intB, f_listL, f_listT, f_all, f_any, x_lst, x_tup, x_str, c_L, c_S, j_L, w_execs, s_nil', s_cons', t_nx, t_ret, t_brk, t_ct, x_set, x_own, x_sha, x_retV, x_retN, x_if, x_for, x_expr, x_app, x_putI, x_putR, x_frz, x_pass, x_brk, x_cont, r_non, r_bl, r_int, r_str, r_glob, r_bin, r_neg, r_cmp, r_isN, r_isnotN, r_chain, r_and, r_or, r_not, r_ite, r_tup, r_lst, r_idx, r_cut, r_b1, r_isin, r_join, r_call, r_callK, r_comp, u_non, u_bl, u_int, u_str, u_ref, ixN_nn, fin_ret, fin_nx, List.map_cons, List.map_nil, List.cons_append, List.nil_append, List.append_nil, List.set_cons_succ, List.set_cons_zero, List.getElem?_cons_succ, List.getElem?_cons_zero, List.length_cons, List.length_nil, List.replicate_succ, List.replicate_zero, Option.some.injEq, Sl.val.injEq, Sl.own.injEq, D.lst.injEq, D.int.injEq, reduceCtorEq, or_false, false_or, and_true, true_and, exists_eq_left', exists_eq_left, Nat.reduceSub, Nat.reduceAdd, Nat.reduceLT, Nat.reduceLeDiff, Sl.pair, put, wipe, D.isNon, Bool.not_true, Bool.not_false, Option.bind_some, Int.reduceToNat, Int.reduceLE, Int.reduceLT, Int.cast_ofNat_Int, Int.natCast_add, decide_eq_true_eq, ite_true, ite_false, if_true, if_false, Bool.false_eq_true]
      exact ⟨by decide, _, rfl, cs, 0, 0, m, rfl, by decide⟩
  · rw [cutL_map] at hx
    obtain ⟨z, _, rfl⟩ := List.mem_map.mp hx
    rw [w_turn]
    simp only [W_ret, W_bind, W_guard, W_some, W_v, W_f, wv_non, wv_bl, wv_int, wv_str, wv_tup, wv_lst, wv_ref, w_objOf, w_setO, w_newO, w_asL, w_asI, w_asB, w_rd, w_pk, w_ownOf, p_var, p_non, p_bl, p_int, p_str, p_glob, p_bin, p_neg, p_cmp, p_isN, p_isnotN, p_chain, p_and, p_or, p_not, p_ite, p_tup, p_lst, p_idx, p_cut, p_b1, p_isin, p_join, p_call, p_callK, p_comp, e_var, e_non, e_bl, e_int, e_str, e_glob, e_bin, e_neg, e_cmp, e_isN, e_isnotN, e_chain, e_and, e_or, e_not, e_ite, e_tup, e_lst, e_idx, e_cut, e_b1, e_isin, e_join, e_call, e_callK, e_comp, es_nil, es_cons, eo_none, eo_some, b_none, b_some, i_over', i_range', i_range2', i_zip', i_enum', it_lst, it_tup, it_str, z_lst, z_tup, en_lst, o_addI, o_addS, o_addL, o_sub, o_mul, o_mulL, o_fdiv, o_mod, o_pow, k_lt, k_le, k_gt, k_ge, k_eq, k_ne, k_inS, k_niS, k_V, f_lenL, f_lenT, f_lenS, f_intI, f_intB, f_listL, f_listT, f_all, f_any, x_lst, x_tup, x_str, c_L, c_S, j_L, w_execs, s_nil', s_cons', t_nx, t_ret, t_brk, t_ct, x_set, x_own, x_sha, x_retV, x_retN, x_if, x_for, x_expr, x_app, x_putI, x_putR, x_frz, x_pass, x_brk, x_cont, r_non, r_bl, r_int, r_str, r_glob, r_bin, r_neg, r_cmp, r_isN, r_isnotN, r_chain, r_and, r_or, r_not, r_ite, r_tup, r_lst, r_idx, r_cut, r_b1, r_isin, r_join, r_call, r_callK, r_comp, u_non, u_bl, u_int, u_str, u_ref, ixN_nn, fin_ret, fin_nx, List.map_cons, List.map_nil, List.cons_append, List.nil_append, List.append_nil, List.set_cons_succ, List.set_cons_zero, List.getElem?_cons_succ, List.getElem?_cons_zero, List.length_cons, List.length_nil, List.replicate_succ, List.replicate_zero, Option.some.injEq, Sl.val.injEq, Sl.own.injEq, D.lst.injEq, D.int.injEq, reduceCtorEq, or_false, false_or, and_true, true_and, exists_eq_left', exists_eq_left, Nat.reduceSub, Nat.reduceAdd, Nat.reduceLT, Nat.reduceLeDiff, Sl.pair, put, wipe, D.isNon, Bool.not_true, Bool.not_false, Option.bind_some, Int.reduceToNat, Int.reduceLE, Int.reduceLT, Int.cast_ofNat_Int, Int.natCast_add, decide_eq_true_eq, ite_true, ite_false, if_true, if_false, Bool.false_eq_true]
    exact hR

/-- what is known of a call of the pick -/
def PickOk (call : Nat → List D → M (D × Bool)) (s : Nat) : Prop := ∀ (S : Store) (n : Nat) (d : D) (many : Int), S[n]? = some d → Deal d → 0 < many → many < 1073741824 →
  W (call s [.ref n, .int many]) S fun v S' => ∃ v' d', v = (.int v', false) ∧ S' = S.set n d' ∧ Deal d' ∧ 0 ≤ v' ∧ v' < many
theorem of_bodyS {G : List D} {call : Nat → List D → M (D × Bool)} {S : Store} {n : Nat} {d : D} {t : List Nat} (hp : PickOk call 0) (hn : S[n]? = some d) (hd : Deal d) (h0 : 0 < t.length) (h1 : t.length < 1073741) :
    W (body G call f3 [.ref n, .str t]) S fun v S' => ∃ c d', v = (.str [c], false) ∧ c ∈ t ∧ S' = S.set n d' ∧ Deal d' := by
  rw [w_body]
  unfold f3
  simp only [W_ret, W_bind, W_guard, W_some, W_v, W_f, wv_non, wv_bl, wv_int, wv_str, wv_tup, wv_lst, wv_ref, w_objOf, w_setO, w_newO, w_asL, w_asI, w_asB, w_rd, w_pk, w_ownOf, p_var, p_non, p_bl, p_int, p_str, p_glob, p_bin, p_neg, p_cmp, p_isN, p_isnotN, p_chain, p_and, p_or, p_not, p_ite, p_tup, p_lst, p_idx, p_cut, p_b1, p_isin, p_join, p_call, p_callK, p_comp, e_var, e_non, e_bl, e_int, e_str, e_glob, e_bin, e_neg, e_cmp, e_isN, e_isnotN, e_chain, e_and, e_or, e_not, e_ite, e_tup, e_lst, e_idx, e_cut, e_b1, e_isin, e_join, e_call, e_callK, e_comp, es_nil, es_cons, eo_none, eo_some, b_none, b_some, i_over', i_range', i_range2', i_zip', i_enum', it_lst, it_tup, it_str, z_lst, z_tup, en_lst, o_addI, o_addS, o_addL, o_sub, o_mul, o_mulL, o_fdiv, o_mod, o_pow, k_lt, k_le, k_gt, k_ge, k_eq, k_ne, k_inS, k_niS, k_V, f_lenL, f_lenT, f_lenS, f_intI, f_intB, f_listL, f_listT, f_all, f_any, x_lst, x_tup, x_str, c_L, c_S, j_L, w_execs, s_nil', s_cons', t_nx, t_ret, t_brk, t_ct, x_set, x_own, x_sha, x_retV, x_retN, x_if, x_for, x_expr, x_app, x_putI, x_putR, x_frz, x_pass, x_brk, x_cont, r_non, r_bl, r_int, r_str, r_glob, r_bin, r_neg, r_cmp, r_isN, r_isnotN, r_chain, r_and, r_or, r_not, r_ite, r_tup, r_lst, r_idx, r_cut, r_b1, r_isin, r_join, r_call, r_callK, r_comp, u_non, u_bl, u_int, u_str, u_ref, ixN_nn, fin_ret, fin_nx, List.map_cons, List.map_nil, List.cons_append, List.nil_append, List.append_nil, List.set_cons_succ, List.set_cons_zero, List.getElem?_cons_succ, List.getElem?_cons_zero, List.length_cons, List.length_nil, List.replicate_succ, List.replicate_zero, Option.some.injEq, Sl.val.injEq, Sl.own.injEq, D.lst.injEq, D.int.injEq, reduceCtorEq, or_false, false_or, and_true, true_and, exists_eq_left', exists_eq_left, Nat.reduceSub, Nat.reduceAdd, Nat.reduceLT, Nat.reduceLeDiff, Sl.pair, put, wipe, D.isNon, Bool.not_true, Bool.not_false, Option.bind_some, Int.reduceToNat, Int.reduceLE, Int.reduceLT, Int.cast_ofNat_Int, Int.natCast_add, decide_eq_true_eq, ite_true, ite_false, if_true, if_false, Bool.false_eq_true]
  have hline : t.length ≤ line := by show t.length ≤ 16777216; omega
  refine ⟨hline, (hp S n d t.length hn hd (by omega) (by omega)).mono fun v S' ⟨v', d', e1, e2, e3, e4, e5⟩ => ?_⟩
  subst e1
  have hz : v'.toNat < t.length := by omega
  simp only [W_ret, W_bind, W_guard, W_some, W_v, W_f, wv_non, wv_bl, wv_int, wv_str, wv_tup, wv_lst, wv_ref, w_objOf, w_setO, w_newO, w_asL, w_asI, w_asB, w_rd, w_pk, w_ownOf, p_var, p_non, p_bl, p_int, p_str, p_glob, p_bin, p_neg, p_cmp, p_isN, p_isnotN, p_chain, p_and, p_or, p_not, p_ite, p_tup, p_lst, p_idx, p_cut, p_b1, p_isin, p_join, p_call, p_callK, p_comp, e_var, e_non, e_bl, e_int, e_str, e_glob, e_bin, e_neg, e_cmp, e_isN, e_isnotN, e_chain, e_and, e_or, e_not, e_ite, e_tup, e_lst, e_idx, e_cut, e_b1, e_isin, e_join, e_call, e_callK, e_comp, es_nil, es_cons, eo_none, eo_some, b_none, b_some, i_over', i_range', i_range2', i_zip', i_enum', it_lst, it_tup, it_str, z_lst, z_tup, en_lst, o_addI, o_addS, o_addL, o_sub, o_mul, o_mulL, o_fdiv, o_mod, o_pow, k_lt, k_le, k_gt, k_ge, k_eq, k_ne, k_inS, k_niS, k_V, f_lenL, f_lenT, f_lenS, f_intI, f_intB, f_listL, f_listT, f_all, f_any, x_lst, x_tup, x_str, c_L, c_S, j_L, w_execs, s_nil', s_cons', t_nx, t_ret, t_brk, t_ct, x_set, x_own, x_sha, x_retV, x_retN, x_if, x_for, x_expr, x_app, x_putI, x_putR, x_frz, x_pass, x_brk, x_cont, r_non, r_bl, r_int, r_str, r_glob, r_bin, r_neg, r_cmp, r_isN, r_isnotN, r_chain, r_and, r_or, r_not, r_ite, r_tup, r_lst, r_idx, r_cut, r_b1, r_isin, r_join, r_call, r_callK, r_comp, u_non, u_bl, u_int, u_str, u_ref, ixN_nn, fin_ret, fin_nx, List.map_cons, List.map_nil, List.cons_append, List.nil_append, List.append_nil, List.set_cons_succ, List.set_cons_zero, List.getElem?_cons_succ, List.getElem?_cons_zero, List.length_cons, List.length_nil, List.replicate_succ, List.replicate_zero, Option.some.injEq, Sl.val.injEq, Sl.own.injEq, D.lst.injEq, D.int.injEq, reduceCtorEq, or_false, false_or, and_true, true_and, exists_eq_left', exists_eq_left, Nat.reduceSub, Nat.reduceAdd, Nat.reduceLT, Nat.reduceLeDiff, Sl.pair, put, wipe, D.isNon, Bool.not_true, Bool.not_false, Option.bind_some, Int.reduceToNat, Int.reduceLE, Int.reduceLT, Int.cast_ofNat_Int, Int.natCast_add, decide_eq_true_eq, ite_true, ite_false, if_true, if_false, Bool.false_eq_true]
  refine ⟨hline, ?_⟩
  rw [ixN_nn e4 e5]
  show W (M.opt (Option.map (fun c => D.str [c]) t[v'.toNat]?)) _ _
  rw [List.getElem?_eq_getElem hz]
  exact W.of rfl (by simp only [W_ret, W_bind, W_guard, W_some, W_v, W_f, wv_non, wv_bl, wv_int, wv_str, wv_tup, wv_lst, wv_ref, w_objOf, w_setO, w_newO, w_asL, w_asI, w_asB, w_rd, w_pk, w_ownOf, p_var, p_non, p_bl, p_int, p_str, p_glob, p_bin, p_neg, p_cmp, p_isN, p_isnotN, p_chain, p_and, p_or, p_not, p_ite, p_tup, p_lst, p_idx, p_cut, p_b1, p_isin, p_join, p_call, p_callK, p_comp, e_var, e_non, e_bl, e_int, e_str, e_glob, e_bin, e_neg, e_cmp, e_isN, e_isnotN, e_chain, e_and, e_or, e_not, e_ite, e_tup, e_lst, e_idx, e_cut, e_b1, e_isin, e_join, e_call, e_callK, e_comp, es_nil, es_cons, eo_none, eo_some, b_none, b_some, i_over', i_range', i_range2', i_zip', i_enum', it_lst, it_tup, it_str, z_lst, z_tup, en_lst, o_addI, o_addS, o_addL, o_sub, o_mul, o_mulL, o_fdiv, o_mod, o_pow, k_lt, k_le, k_gt, k_ge, k_eq, k_ne, k_inS, k_niS, k_V, f_lenL, f_lenT, f_lenS, f_intI, f_intB, f_listL, f_listT, f_all, f_any, x_lst, x_tup, x_str, c_L, c_S, j_L, w_execs, s_nil', s_cons', t_nx, t_ret, t_brk, t_ct, x_set, x_own, x_sha, x_retV, x_retN, x_if, x_for, x_expr, x_app, x_putI, x_putR, x_frz, x_pass, x_brk, x_cont, r_non, r_bl, r_int, r_str, r_glob, r_bin, r_neg, r_cmp, r_isN, r_isnotN, r_chain, r_and, r_or, r_not, r_ite, r_tup, r_lst, r_idx, r_cut, r_b1, r_isin, r_join, r_call, r_callK, r_comp, u_non, u_bl, u_int, u_str, u_ref, ixN_nn, fin_ret, fin_nx, List.map_cons, List.map_nil, List.cons_append, List.nil_append, List.append_nil, List.set_cons_succ, List.set_cons_zero, List.getElem?_cons_succ, List.getElem?_cons_zero, List.length_cons, List.length_nil, List.replicate_succ, List.replicate_zero, Option.some.injEq, Sl.val.injEq, Sl.own.injEq, D.lst.injEq, D.int.injEq, reduceCtorEq, or_false, false_or, and_true, true_and, exists_eq_left', exists_eq_left, Nat.reduceSub, Nat.reduceAdd, Nat.reduceLT, Nat.reduceLeDiff, Sl.pair, put, wipe, D.isNon, Bool.not_true, Bool.not_false, Option.bind_some, Int.reduceToNat, Int.reduceLE, Int.reduceLT, Int.cast_ofNat_Int, Int.natCast_add, decide_eq_true_eq, ite_true, ite_false, if_true, if_false, Bool.false_eq_true]; exact ⟨_, d', rfl, List.getElem_mem hz, e2, e3⟩)
theorem of_bodyL {G : List D} {call : Nat → List D → M (D × Bool)} {S : Store} {n : Nat} {d : D} {xs : List D} (hp : PickOk call 0) (hn : S[n]? = some d) (hd : Deal d) (h0 : 0 < xs.length) (h1 : xs.length < 1073741) :
    W (body G call f3 [.ref n, .lst xs]) S fun v S' => ∃ x d', v = (x, false) ∧ x ∈ xs ∧ S' = S.set n d' ∧ Deal d' := by
  rw [w_body]
  unfold f3
  simp only [W_ret, W_bind, W_guard, W_some, W_v, W_f, wv_non, wv_bl, wv_int, wv_str, wv_tup, wv_lst, wv_ref, w_objOf, w_setO, w_newO, w_asL, w_asI, w_asB, w_rd, w_pk, w_ownOf, p_var, p_non, p_bl, p_int, p_str, p_glob, p_bin, p_neg, p_cmp, p_isN, p_isnotN, p_chain, p_and, p_or, p_not, p_ite, p_tup, p_lst, p_idx, p_cut, p_b1, p_isin, p_join, p_call, p_callK, p_comp, e_var, e_non, e_bl, e_int, e_str, e_glob, e_bin, e_neg, e_cmp, e_isN, e_isnotN, e_chain, e_and, e_or, e_not, e_ite, e_tup, e_lst, e_idx, e_cut, e_b1, e_isin, e_join, e_call, e_callK, e_comp, es_nil, es_cons, eo_none, eo_some, b_none, b_some, i_over', i_range', i_range2', i_zip', i_enum', it_lst, it_tup, it_str, z_lst, z_tup, en_lst, o_addI, o_addS, o_addL, o_sub, o_mul, o_mulL, o_fdiv, o_mod, o_pow, k_lt, k_le, k_gt, k_ge, k_eq, k_ne, k_inS, k_niS, k_V, f_lenL, f_lenT, f_lenS, f_intI, f_intB, f_listL, f_listT, f_all, f_any, x_lst, x_tup, x_str, c_L, c_S, j_L, w_execs, s_nil', s_cons', t_nx, t_ret, t_brk, t_ct, x_set, x_own, x_sha, x_retV, x_retN, x_if, x_for, x_expr, x_app, x_putI, x_putR, x_frz, x_pass, x_brk, x_cont, r_non, r_bl, r_int, r_str, r_glob, r_bin, r_neg, r_cmp, r_isN, r_isnotN, r_chain, r_and, r_or, r_not, r_ite, r_tup, r_lst, r_idx, r_cut, r_b1, r_isin, r_join, r_call, r_callK, r_comp, u_non, u_bl, u_int, u_str, u_ref, ixN_nn, fin_ret, fin_nx, List.map_cons, List.map_nil, List.cons_append, List.nil_append, List.append_nil, List.set_cons_succ, List.set_cons_zero, List.getElem?_cons_succ, List.getElem?_cons_zero, List.length_cons, List.length_nil, List.replicate_succ, List.replicate_zero, Option.some.injEq, Sl.val.injEq, Sl.own.injEq, D.lst.injEq, D.int.injEq, reduceCtorEq, or_false, false_or, and_true, true_and, exists_eq_left', exists_eq_left, Nat.reduceSub, Nat.reduceAdd, Nat.reduceLT, Nat.reduceLeDiff, Sl.pair, put, wipe, D.isNon, Bool.not_true, Bool.not_false, Option.bind_some, Int.reduceToNat, Int.reduceLE, Int.reduceLT, Int.cast_ofNat_Int, Int.natCast_add, decide_eq_true_eq, ite_true, ite_false, if_true, if_false, Bool.false_eq_true]
  refine (hp S n d xs.length hn hd (by omega) (by omega)).mono fun v S' ⟨v', d', e1, e2, e3, e4, e5⟩ => ?_
  subst e1
  have hz : v'.toNat < xs.length := by omega
  simp only [W_ret, W_bind, W_guard, W_some, W_v, W_f, wv_non, wv_bl, wv_int, wv_str, wv_tup, wv_lst, wv_ref, w_objOf, w_setO, w_newO, w_asL, w_asI, w_asB, w_rd, w_pk, w_ownOf, p_var, p_non, p_bl, p_int, p_str, p_glob, p_bin, p_neg, p_cmp, p_isN, p_isnotN, p_chain, p_and, p_or, p_not, p_ite, p_tup, p_lst, p_idx, p_cut, p_b1, p_isin, p_join, p_call, p_callK, p_comp, e_var, e_non, e_bl, e_int, e_str, e_glob, e_bin, e_neg, e_cmp, e_isN, e_isnotN, e_chain, e_and, e_or, e_not, e_ite, e_tup, e_lst, e_idx, e_cut, e_b1, e_isin, e_join, e_call, e_callK, e_comp, es_nil, es_cons, eo_none, eo_some, b_none, b_some, i_over', i_range', i_range2', i_zip', i_enum', it_lst, it_tup, it_str, z_lst, z_tup, en_lst, o_addI, o_addS, o_addL, o_sub, o_mul, o_mulL, o_fdiv, o_mod, o_pow, k_lt, k_le, k_gt, k_ge, k_eq, k_ne, k_inS, k_niS, k_V, f_lenL, f_lenT, f_lenS, f_intI, f_intB, f_listL, f_listT, f_all, f_any, x_lst, x_tup, x_str, c_L, c_S, j_L, w_execs, s_nil', s_cons', t_nx, t_ret, t_brk, t_ct, x_set, x_own, x_sha, x_retV, x_retN, x_if, x_for, x_expr, x_app, x_putI, x_putR, x_frz, x_pass, x_brk, x_cont, r_non, r_bl, r_int, r_str, r_glob, r_bin, r_neg, r_cmp, r_isN, r_isnotN, r_chain, r_and, r_or, r_not, r_ite, r_tup, r_lst, r_idx, r_cut, r_b1, r_isin, r_join, r_call, r_callK, r_comp, u_non, u_bl, u_int, u_str, u_ref, ixN_nn, fin_ret, fin_nx, List.map_cons, List.map_nil, List.cons_append, List.nil_append, List.append_nil, List.set_cons_succ, List.set_cons_zero, List.getElem?_cons_succ, List.getElem?_cons_zero, List.length_cons, List.length_nil, List.replicate_succ, List.replicate_zero, Option.some.injEq, Sl.val.injEq, Sl.own.injEq, D.lst.injEq, D.int.injEq, reduceCtorEq, or_false, false_or, and_true, true_and, exists_eq_left', exists_eq_left, Nat.reduceSub, Nat.reduceAdd, Nat.reduceLT, Nat.reduceLeDiff, Sl.pair, put, wipe, D.isNon, Bool.not_true, Bool.not_false, Option.bind_some, Int.reduceToNat, Int.reduceLE, Int.reduceLT, Int.cast_ofNat_Int, Int.natCast_add, decide_eq_true_eq, ite_true, ite_false, if_true, if_false, Bool.false_eq_true]
  rw [w_ix e4 (List.getElem?_eq_getElem hz)]
  exact ⟨_, d', rfl, List.getElem_mem hz, e2, e3⟩
/-- a thing without objects, of bounded depth -/
def D.fit : Nat → D → Bool
  | _, .non => true
  | _, .bl _ => true
  | _, .int _ => true
  | _, .str _ => true
  | k + 1, .tup xs => decide (xs.length ≤ line) && xs.all (D.fit k)
  | k + 1, .lst xs => decide (xs.length ≤ line) && xs.all (D.fit k)
  | _, _ => false
/-- one and the same thing is the same -/
def SameOk (call : Nat → List D → M (D × Bool)) (s k : Nat) : Prop := ∀ (S : Store) (x : D), D.fit k x = true → W (call s [x, x]) S fun v S' => v = (.bl true, false) ∧ S' = S
theorem mapF_ok {f : D → M (Option D)} {S : Store} {y : D} : ∀ {xs : List D}, (∀ x ∈ xs, f x S = .ok (some y) S) → ∀ (P : List D → Store → Prop), W (mapF f xs) S P = P (List.replicate xs.length y) S := fun {xs} h P => by
  rw [w_mapF_pure (g := fun _ => some y) h]
  congr 1
  induction xs with
  | nil => rfl
  | cons x r ih => rw [List.filterMap_cons, ih (fun z hz => h z (List.mem_cons_of_mem _ hz))]; rfl
theorem allB_rep (n : Nat) : allB (List.replicate n (.bl true)) = some (List.replicate n true) := by
  have z := allB_map (List.replicate n true)
  rwa [List.map_replicate] at z
theorem all_rep (n : Nat) : (List.replicate n true).all id = true := List.all_eq_true.mpr fun x hx => (List.mem_replicate.mp hx).2
theorem same_body {G : List D} {call : Nat → List D → M (D × Bool)} {k : Nat} (hr : ∀ k', k = k' + 1 → SameOk call 1 k') (S : Store) (x : D) (hx : D.fit k x = true) :
    W (body G call f4 [x, x]) S fun v S' => v = (.bl true, false) ∧ S' = S := by
  rw [w_body]
  have hzip : ∀ xs : List D, k ≠ 0 → (∀ k', k = k' + 1 → xs.all (D.fit k') = true) → ∀ z ∈ (xs.zip xs).map (fun p => D.tup [p.1, p.2]), ∀ (S : Store) (a b : Option Sl) (c d : D), turnW G call [some (.val c), some (.val d), a, b] [2, 3] [2, 3] (.call 1 (.cons (.var 2) (.cons (.var 3) .nil))) .none z S = .ok (some (.bl true)) S := by
    intro xs hk hf z hz S a b c d
    obtain ⟨p, hp, rfl⟩ := List.mem_map.mp hz
    obtain ⟨k', rfl⟩ : ∃ k', k = k' + 1 := ⟨k - 1, by omega⟩
    have e : p.1 = p.2 := by
      obtain ⟨i, hi⟩ := List.getElem?_of_mem hp
      rw [List.getElem?_zip_eq_some] at hi
      have z := hi.1.symm.trans hi.2
      exact Option.some.inj z
    have hm : p.2 ∈ xs := (List.of_mem_zip (a := p.1) (b := p.2) hp).2
    have hfit := List.all_eq_true.mp (hf k' rfl) _ hm
    refine W.pure fun R hR => ?_
    rw [w_turn]
    simp only [W_ret, W_bind, W_guard, W_some, W_v, W_f, wv_non, wv_bl, wv_int, wv_str, wv_tup, wv_lst, wv_ref, w_objOf, w_setO, w_newO, w_asL, w_asI, w_asB, w_rd, w_pk, w_ownOf, p_var, p_non, p_bl, p_int, p_str, p_glob, p_bin, p_neg, p_cmp, p_isN, p_isnotN, p_chain, p_and, p_or, p_not, p_ite, p_tup, p_lst, p_idx, p_cut, p_b1, p_isin, p_join, p_call, p_callK, p_comp, e_var, e_non, e_bl, e_int, e_str, e_glob, e_bin, e_neg, e_cmp, e_isN, e_isnotN, e_chain, e_and, e_or, e_not, e_ite, e_tup, e_lst, e_idx, e_cut, e_b1, e_isin, e_join, e_call, e_callK, e_comp, es_nil, es_cons, eo_none, eo_some, b_none, b_some, i_over', i_range', i_range2', i_zip', i_enum', it_lst, it_tup, it_str, z_lst, z_tup, en_lst, o_addI, o_addS, o_addL, o_sub, o_mul, o_mulL, o_fdiv, o_mod, o_pow, k_lt, k_le, k_gt, k_ge, k_eq, k_ne, k_inS, k_niS, k_V, f_lenL, f_lenT, f_lenS, f_intI, f_intB, f_listL, f_listT, f_all, f_any, x_lst, x_tup, x_str, c_L, c_S, j_L, w_execs, s_nil', s_cons', t_nx, t_ret, t_brk, t_ct, x_set, x_own, x_sha, x_retV, x_retN, x_if, x_for, x_expr, x_app, x_putI, x_putR, x_frz, x_pass, x_brk, x_cont, r_non, r_bl, r_int, r_str, r_glob, r_bin, r_neg, r_cmp, r_isN, r_isnotN, r_chain, r_and, r_or, r_not, r_ite, r_tup, r_lst, r_idx, r_cut, r_b1, r_isin, r_join, r_call, r_callK, r_comp, u_non, u_bl, u_int, u_str, u_ref, ixN_nn, fin_ret, fin_nx, List.map_cons, List.map_nil, List.cons_append, List.nil_append, List.append_nil, List.set_cons_succ, List.set_cons_zero, List.getElem?_cons_succ, List.getElem?_cons_zero, List.length_cons, List.length_nil, List.replicate_succ, List.replicate_zero, Option.some.injEq, Sl.val.injEq, Sl.own.injEq, D.lst.injEq, D.int.injEq, reduceCtorEq, or_false, false_or, and_true, true_and, exists_eq_left', exists_eq_left, Nat.reduceSub, Nat.reduceAdd, Nat.reduceLT, Nat.reduceLeDiff, Sl.pair, put, wipe, D.isNon, Bool.not_true, Bool.not_false, Option.bind_some, Int.reduceToNat, Int.reduceLE, Int.reduceLT, Int.cast_ofNat_Int, Int.natCast_add, decide_eq_true_eq, ite_true, ite_false, if_true, if_false, Bool.false_eq_true, e]
    refine (hr k' rfl S p.2 hfit).mono fun v S' ⟨e1, e2⟩ => ?_
    subst e1 e2
    exact hR
  unfold f4
  cases x with
  | non => simp only [W_ret, W_bind, W_guard, W_some, W_v, W_f, wv_non, wv_bl, wv_int, wv_str, wv_tup, wv_lst, wv_ref, w_objOf, w_setO, w_newO, w_asL, w_asI, w_asB, w_rd, w_pk, w_ownOf, p_var, p_non, p_bl, p_int, p_str, p_glob, p_bin, p_neg, p_cmp, p_isN, p_isnotN, p_chain, p_and, p_or, p_not, p_ite, p_tup, p_lst, p_idx, p_cut, p_b1, p_isin, p_join, p_call, p_callK, p_comp, e_var, e_non, e_bl, e_int, e_str, e_glob, e_bin, e_neg, e_cmp, e_isN, e_isnotN, e_chain, e_and, e_or, e_not, e_ite, e_tup, e_lst, e_idx, e_cut, e_b1, e_isin, e_join, e_call, e_callK, e_comp, es_nil, es_cons, eo_none, eo_some, b_none, b_some, i_over', i_range', i_range2', i_zip', i_enum', it_lst, it_tup, it_str, z_lst, z_tup, en_lst, o_addI, o_addS, o_addL, o_sub, o_mul, o_mulL, o_fdiv, o_mod, o_pow, k_lt, k_le, k_gt, k_ge, k_eq, k_ne, k_inS, k_niS, k_V, f_lenL, f_lenT, f_lenS, f_intI, f_intB, f_listL, f_listT, f_all, f_any, x_lst, x_tup, x_str, c_L, c_S, j_L, w_execs, s_nil', s_cons', t_nx, t_ret, t_brk, t_ct, x_set, x_own, x_sha, x_retV, x_retN, x_if, x_for, x_expr, x_app, x_putI, x_putR, x_frz, x_pass, x_brk, x_cont, r_non, r_bl, r_int, r_str, r_glob, r_bin, r_neg, r_cmp, r_isN, r_isnotN, r_chain, r_and, r_or, r_not, r_ite, r_tup, r_lst, r_idx, r_cut, r_b1, r_isin, r_join, r_call, r_callK, r_comp, u_non, u_bl, u_int, u_str, u_ref, ixN_nn, fin_ret, fin_nx, List.map_cons, List.map_nil, List.cons_append, List.nil_append, List.append_nil, List.set_cons_succ, List.set_cons_zero, List.getElem?_cons_succ, List.getElem?_cons_zero, List.length_cons, List.length_nil, List.replicate_succ, List.replicate_zero, Option.some.injEq, Sl.val.injEq, Sl.own.injEq, D.lst.injEq, D.int.injEq, reduceCtorEq, or_false, false_or, and_true, true_and, exists_eq_left', exists_eq_left, Nat.reduceSub, Nat.reduceAdd, Nat.reduceLT, Nat.reduceLeDiff, Sl.pair, put, wipe, D.isNon, Bool.not_true, Bool.not_false, Option.bind_some, Int.reduceToNat, Int.reduceLE, Int.reduceLT, Int.cast_ofNat_Int, Int.natCast_add, decide_eq_true_eq, ite_true, ite_false, if_true, if_false, Bool.false_eq_true]
  | bl b => simp only [W_ret, W_bind, W_guard, W_some, W_v, W_f, wv_non, wv_bl, wv_int, wv_str, wv_tup, wv_lst, wv_ref, w_objOf, w_setO, w_newO, w_asL, w_asI, w_asB, w_rd, w_pk, w_ownOf, p_var, p_non, p_bl, p_int, p_str, p_glob, p_bin, p_neg, p_cmp, p_isN, p_isnotN, p_chain, p_and, p_or, p_not, p_ite, p_tup, p_lst, p_idx, p_cut, p_b1, p_isin, p_join, p_call, p_callK, p_comp, e_var, e_non, e_bl, e_int, e_str, e_glob, e_bin, e_neg, e_cmp, e_isN, e_isnotN, e_chain, e_and, e_or, e_not, e_ite, e_tup, e_lst, e_idx, e_cut, e_b1, e_isin, e_join, e_call, e_callK, e_comp, es_nil, es_cons, eo_none, eo_some, b_none, b_some, i_over', i_range', i_range2', i_zip', i_enum', it_lst, it_tup, it_str, z_lst, z_tup, en_lst, o_addI, o_addS, o_addL, o_sub, o_mul, o_mulL, o_fdiv, o_mod, o_pow, k_lt, k_le, k_gt, k_ge, k_eq, k_ne, k_inS, k_niS, k_V, f_lenL, f_lenT, f_lenS, f_intI, f_intB, f_listL, f_listT, f_all, f_any, x_lst, x_tup, x_str, c_L, c_S, j_L, w_execs, s_nil', s_cons', t_nx, t_ret, t_brk, t_ct, x_set, x_own, x_sha, x_retV, x_retN, x_if, x_for, x_expr, x_app, x_putI, x_putR, x_frz, x_pass, x_brk, x_cont, r_non, r_bl, r_int, r_str, r_glob, r_bin, r_neg, r_cmp, r_isN, r_isnotN, r_chain, r_and, r_or, r_not, r_ite, r_tup, r_lst, r_idx, r_cut, r_b1, r_isin, r_join, r_call, r_callK, r_comp, u_non, u_bl, u_int, u_str, u_ref, ixN_nn, fin_ret, fin_nx, List.map_cons, List.map_nil, List.cons_append, List.nil_append, List.append_nil, List.set_cons_succ, List.set_cons_zero, List.getElem?_cons_succ, List.getElem?_cons_zero, List.length_cons, List.length_nil, List.replicate_succ, List.replicate_zero, Option.some.injEq, Sl.val.injEq, Sl.own.injEq, D.lst.injEq, D.int.injEq, reduceCtorEq, or_false, false_or, and_true, true_and, exists_eq_left', exists_eq_left, Nat.reduceSub, Nat.reduceAdd, Nat.reduceLT, Nat.reduceLeDiff, Sl.pair, put, wipe, D.isNon, Bool.not_true, Bool.not_false, Option.bind_some, Int.reduceToNat, Int.reduceLE, Int.reduceLT, Int.cast_ofNat_Int, Int.natCast_add, decide_eq_true_eq, ite_true, ite_false, if_true, if_false, Bool.false_eq_true, Ty.has, noRef, List.any_cons, List.any_nil, D.plain, D.eqv, Bool.or_false, Bool.false_or, Bool.or_true, Bool.true_or, beq_self_eq_true]
  | int b => simp only [W_ret, W_bind, W_guard, W_some, W_v, W_f, wv_non, wv_bl, wv_int, wv_str, wv_tup, wv_lst, wv_ref, w_objOf, w_setO, w_newO, w_asL, w_asI, w_asB, w_rd, w_pk, w_ownOf, p_var, p_non, p_bl, p_int, p_str, p_glob, p_bin, p_neg, p_cmp, p_isN, p_isnotN, p_chain, p_and, p_or, p_not, p_ite, p_tup, p_lst, p_idx, p_cut, p_b1, p_isin, p_join, p_call, p_callK, p_comp, e_var, e_non, e_bl, e_int, e_str, e_glob, e_bin, e_neg, e_cmp, e_isN, e_isnotN, e_chain, e_and, e_or, e_not, e_ite, e_tup, e_lst, e_idx, e_cut, e_b1, e_isin, e_join, e_call, e_callK, e_comp, es_nil, es_cons, eo_none, eo_some, b_none, b_some, i_over', i_range', i_range2', i_zip', i_enum', it_lst, it_tup, it_str, z_lst, z_tup, en_lst, o_addI, o_addS, o_addL, o_sub, o_mul, o_mulL, o_fdiv, o_mod, o_pow, k_lt, k_le, k_gt, k_ge, k_eq, k_ne, k_inS, k_niS, k_V, f_lenL, f_lenT, f_lenS, f_intI, f_intB, f_listL, f_listT, f_all, f_any, x_lst, x_tup, x_str, c_L, c_S, j_L, w_execs, s_nil', s_cons', t_nx, t_ret, t_brk, t_ct, x_set, x_own, x_sha, x_retV, x_retN, x_if, x_for, x_expr, x_app, x_putI, x_putR, x_frz, x_pass, x_brk, x_cont, r_non, r_bl, r_int, r_str, r_glob, r_bin, r_neg, r_cmp, r_isN, r_isnotN, r_chain, r_and, r_or, r_not, r_ite, r_tup, r_lst, r_idx, r_cut, r_b1, r_isin, r_join, r_call, r_callK, r_comp, u_non, u_bl, u_int, u_str, u_ref, ixN_nn, fin_ret, fin_nx, List.map_cons, List.map_nil, List.cons_append, List.nil_append, List.append_nil, List.set_cons_succ, List.set_cons_zero, List.getElem?_cons_succ, List.getElem?_cons_zero, List.length_cons, List.length_nil, List.replicate_succ, List.replicate_zero, Option.some.injEq, Sl.val.injEq, Sl.own.injEq, D.lst.injEq, D.int.injEq, reduceCtorEq, or_false, false_or, and_true, true_and, exists_eq_left', exists_eq_left, Nat.reduceSub, Nat.reduceAdd, Nat.reduceLT, Nat.reduceLeDiff, Sl.pair, put, wipe, D.isNon, Bool.not_true, Bool.not_false, Option.bind_some, Int.reduceToNat, Int.reduceLE, Int.reduceLT, Int.cast_ofNat_Int, Int.natCast_add, decide_eq_true_eq, ite_true, ite_false, if_true, if_false, Bool.false_eq_true, Ty.has, noRef, List.any_cons, List.any_nil, D.plain, D.eqv, Bool.or_false, Bool.false_or, Bool.or_true, Bool.true_or, beq_self_eq_true]
  | str b => simp only [W_ret, W_bind, W_guard, W_some, W_v, W_f, wv_non, wv_bl, wv_int, wv_str, wv_tup, wv_lst, wv_ref, w_objOf, w_setO, w_newO, w_asL, w_asI, w_asB, w_rd, w_pk, w_ownOf, p_var, p_non, p_bl, p_int, p_str, p_glob, p_bin, p_neg, p_cmp, p_isN, p_isnotN, p_chain, p_and, p_or, p_not, p_ite, p_tup, p_lst, p_idx, p_cut, p_b1, p_isin, p_join, p_call, p_callK, p_comp, e_var, e_non, e_bl, e_int, e_str, e_glob, e_bin, e_neg, e_cmp, e_isN, e_isnotN, e_chain, e_and, e_or, e_not, e_ite, e_tup, e_lst, e_idx, e_cut, e_b1, e_isin, e_join, e_call, e_callK, e_comp, es_nil, es_cons, eo_none, eo_some, b_none, b_some, i_over', i_range', i_range2', i_zip', i_enum', it_lst, it_tup, it_str, z_lst, z_tup, en_lst, o_addI, o_addS, o_addL, o_sub, o_mul, o_mulL, o_fdiv, o_mod, o_pow, k_lt, k_le, k_gt, k_ge, k_eq, k_ne, k_inS, k_niS, k_V, f_lenL, f_lenT, f_lenS, f_intI, f_intB, f_listL, f_listT, f_all, f_any, x_lst, x_tup, x_str, c_L, c_S, j_L, w_execs, s_nil', s_cons', t_nx, t_ret, t_brk, t_ct, x_set, x_own, x_sha, x_retV, x_retN, x_if, x_for, x_expr, x_app, x_putI, x_putR, x_frz, x_pass, x_brk, x_cont, r_non, r_bl, r_int, r_str, r_glob, r_bin, r_neg, r_cmp, r_isN, r_isnotN, r_chain, r_and, r_or, r_not, r_ite, r_tup, r_lst, r_idx, r_cut, r_b1, r_isin, r_join, r_call, r_callK, r_comp, u_non, u_bl, u_int, u_str, u_ref, ixN_nn, fin_ret, fin_nx, List.map_cons, List.map_nil, List.cons_append, List.nil_append, List.append_nil, List.set_cons_succ, List.set_cons_zero, List.getElem?_cons_succ, List.getElem?_cons_zero, List.length_cons, List.length_nil, List.replicate_succ, List.replicate_zero, Option.some.injEq, Sl.val.injEq, Sl.own.injEq, D.lst.injEq, D.int.injEq, reduceCtorEq, or_false, false_or, and_true, true_and, exists_eq_left', exists_eq_left, Nat.reduceSub, Nat.reduceAdd, Nat.reduceLT, Nat.reduceLeDiff, Sl.pair, put, wipe, D.isNon, Bool.not_true, Bool.not_false, Option.bind_some, Int.reduceToNat, Int.reduceLE, Int.reduceLT, Int.cast_ofNat_Int, Int.natCast_add, decide_eq_true_eq, ite_true, ite_false, if_true, if_false, Bool.false_eq_true, Ty.has, noRef, List.any_cons, List.any_nil, D.plain, D.eqv, Bool.or_false, Bool.false_or, Bool.or_true, Bool.true_or, beq_self_eq_true]
  | ref n => cases k <;> cases hx
  | lst xs =>
    cases k with
    | zero => cases hx
    | succ k =>
      obtain ⟨h1, h2⟩ := Bool.and_eq_true_iff.mp hx
      have h1 : xs.length ≤ line := of_decide_eq_true h1
      simp only [W_ret, W_bind, W_guard, W_some, W_v, W_f, wv_non, wv_bl, wv_int, wv_str, wv_tup, wv_lst, wv_ref, w_objOf, w_setO, w_newO, w_asL, w_asI, w_asB, w_rd, w_pk, w_ownOf, p_var, p_non, p_bl, p_int, p_str, p_glob, p_bin, p_neg, p_cmp, p_isN, p_isnotN, p_chain, p_and, p_or, p_not, p_ite, p_tup, p_lst, p_idx, p_cut, p_b1, p_isin, p_join, p_call, p_callK, p_comp, e_var, e_non, e_bl, e_int, e_str, e_glob, e_bin, e_neg, e_cmp, e_isN, e_isnotN, e_chain, e_and, e_or, e_not, e_ite, e_tup, e_lst, e_idx, e_cut, e_b1, e_isin, e_join, e_call, e_callK, e_comp, es_nil, es_cons, eo_none, eo_some, b_none, b_some, i_over', i_range', i_range2', i_zip', i_enum', it_lst, it_tup, it_str, z_lst, z_tup, en_lst, o_addI, o_addS, o_addL, o_sub, o_mul, o_mulL, o_fdiv, o_mod, o_pow, k_lt, k_le, k_gt, k_ge, k_eq, k_ne, k_inS, k_niS, k_V, f_lenL, f_lenT, f_lenS, f_intI, f_intB, f_listL, f_listT, f_all, f_any, x_lst, x_tup, x_str, c_L, c_S, j_L, w_execs, s_nil', s_cons', t_nx, t_ret, t_brk, t_ct, x_set, x_own, x_sha, x_retV, x_retN, x_if, x_for, x_expr, x_app, x_putI, x_putR, x_frz, x_pass, x_brk, x_cont, r_non, r_bl, r_int, r_str, r_glob, r_bin, r_neg, r_cmp, r_isN, r_isnotN, r_chain, r_and, r_or, r_not, r_ite, r_tup, r_lst, r_idx, r_cut, r_b1, r_isin, r_join, r_call, r_callK, r_comp, u_non, u_bl, u_int, u_str, u_ref, ixN_nn, fin_ret, fin_nx, List.map_cons, List.map_nil, List.cons_append, List.nil_append, List.append_nil, List.set_cons_succ, List.set_cons_zero, List.getElem?_cons_succ, List.getElem?_cons_zero, List.length_cons, List.length_nil, List.replicate_succ, List.replicate_zero, Option.some.injEq, Sl.val.injEq, Sl.own.injEq, D.lst.injEq, D.int.injEq, reduceCtorEq, or_false, false_or, and_true, true_and, exists_eq_left', exists_eq_left, Nat.reduceSub, Nat.reduceAdd, Nat.reduceLT, Nat.reduceLeDiff, Sl.pair, put, wipe, D.isNon, Bool.not_true, Bool.not_false, Option.bind_some, Int.reduceToNat, Int.reduceLE, Int.reduceLT, Int.cast_ofNat_Int, Int.natCast_add, decide_eq_true_eq, ite_true, ite_false, if_true, if_false, Bool.false_eq_true, Ty.has, noRef, List.any_cons, List.any_nil, D.plain, D.eqv, Bool.or_false, Bool.false_or, Bool.or_true, Bool.true_or, beq_self_eq_true]
      refine And.intro (by rw [List.length_map, List.length_zip, Nat.min_self]; exact h1) ?_
      rw [mapF_ok (fun z hz => hzip xs (by omega) (fun k' e => by cases e; exact h2) z hz S _ _ _ _), allB_rep, W_some, all_rep]
      exact ⟨rfl, rfl⟩
  | tup xs =>
    cases k with
    | zero => cases hx
    | succ k =>
      obtain ⟨h1, h2⟩ := Bool.and_eq_true_iff.mp hx
      have h1 : xs.length ≤ line := of_decide_eq_true h1
      simp only [W_ret, W_bind, W_guard, W_some, W_v, W_f, wv_non, wv_bl, wv_int, wv_str, wv_tup, wv_lst, wv_ref, w_objOf, w_setO, w_newO, w_asL, w_asI, w_asB, w_rd, w_pk, w_ownOf, p_var, p_non, p_bl, p_int, p_str, p_glob, p_bin, p_neg, p_cmp, p_isN, p_isnotN, p_chain, p_and, p_or, p_not, p_ite, p_tup, p_lst, p_idx, p_cut, p_b1, p_isin, p_join, p_call, p_callK, p_comp, e_var, e_non, e_bl, e_int, e_str, e_glob, e_bin, e_neg, e_cmp, e_isN, e_isnotN, e_chain, e_and, e_or, e_not, e_ite, e_tup, e_lst, e_idx, e_cut, e_b1, e_isin, e_join, e_call, e_callK, e_comp, es_nil, es_cons, eo_none, eo_some, b_none, b_some, i_over', i_range', i_range2', i_zip', i_enum', it_lst, it_tup, it_str, z_lst, z_tup, en_lst, o_addI, o_addS, o_addL, o_sub, o_mul, o_mulL, o_fdiv, o_mod, o_pow, k_lt, k_le, k_gt, k_ge, k_eq, k_ne, k_inS, k_niS, k_V, f_lenL, f_lenT, f_lenS, f_intI, f_intB, f_listL, f_listT, f_all, f_any, x_lst, x_tup, x_str, c_L, c_S, j_L, w_execs, s_nil', s_cons', t_nx, t_ret, t_brk, t_ct, x_set, x_own, x_sha, x_retV, x_retN, x_if, x_for, x_expr, x_app, x_putI, x_putR, x_frz, x_pass, x_brk, x_cont, r_non, r_bl, r_int, r_str, r_glob, r_bin, r_neg, r_cmp, r_isN, r_isnotN, r_chain, r_and, r_or, r_not, r_ite, r_tup, r_lst, r_idx, r_cut, r_b1, r_isin, r_join, r_call, r_callK, r_comp, u_non, u_bl, u_int, u_str, u_ref, ixN_nn, fin_ret, fin_nx, List.map_cons, List.map_nil, List.cons_append, List.nil_append, List.append_nil, List.set_cons_succ, List.set_cons_zero, List.getElem?_cons_succ, List.getElem?_cons_zero, List.length_cons, List.length_nil, List.replicate_succ, List.replicate_zero, Option.some.injEq, Sl.val.injEq, Sl.own.injEq, D.lst.injEq, D.int.injEq, reduceCtorEq, or_false, false_or, and_true, true_and, exists_eq_left', exists_eq_left, Nat.reduceSub, Nat.reduceAdd, Nat.reduceLT, Nat.reduceLeDiff, Sl.pair, put, wipe, D.isNon, Bool.not_true, Bool.not_false, Option.bind_some, Int.reduceToNat, Int.reduceLE, Int.reduceLT, Int.cast_ofNat_Int, Int.natCast_add, decide_eq_true_eq, ite_true, ite_false, if_true, if_false, Bool.false_eq_true, Ty.has, noRef, List.any_cons, List.any_nil, D.plain, D.eqv, Bool.or_false, Bool.false_or, Bool.or_true, Bool.true_or, beq_self_eq_true]
      refine And.intro (by rw [List.length_map, List.length_zip, Nat.min_self]; exact h1) ?_
      rw [mapF_ok (fun z hz => hzip xs (by omega) (fun k' e => by cases e; exact h2) z hz S _ _ _ _), allB_rep, W_some, all_rep]
      exact ⟨rfl, rfl⟩

/-- the names' letters -/
abbrev LET : List Nat := [97, 98, 99, 100, 101, 102, 103, 104, 105, 106, 107, 108, 109, 110, 111, 112, 113, 114, 115, 116, 117, 118, 119, 120, 121, 122]
def isName (t : List Nat) : Bool := if 1 ≤ (t.length : Int) ∧ (t.length : Int) ≤ 6 then t.all LET.contains else false
theorem letters_map {f : D → M (Option D)} {S : Store} (t : List Nat) (h : ∀ c ∈ t, f (.str [c]) S = .ok (some (.bl (LET.contains c))) S) (P : List D → Store → Prop) : W (mapF f (t.map fun c => D.str [c])) S P = P ((t.map LET.contains).map .bl) S := by
  rw [w_mapF_pure (g := fun x => match x with | .str [c] => some (.bl (LET.contains c)) | _ => none) fun x hx => ?_]
  · congr 1
    induction t with
    | nil => rfl
    | cons c r ih => rw [List.map_cons, List.filterMap_cons, ih fun z hz => h z (List.mem_cons_of_mem _ hz)]; rfl
  · obtain ⟨c, hc, rfl⟩ := List.mem_map.mp hx
    exact h c hc
theorem name_body {call : Nat → List D → M (D × Bool)} {S : Store} {t : List Nat} (hl : t.length ≤ line) : W (body gvs call f0 [.str t]) S fun v S' => v = (.bl (isName t), false) ∧ S' = S := by
  rw [w_body]
  unfold f0
  simp only [W_ret, W_bind, W_guard, W_some, W_v, W_f, wv_non, wv_bl, wv_int, wv_str, wv_tup, wv_lst, wv_ref, w_objOf, w_setO, w_newO, w_asL, w_asI, w_asB, w_rd, w_pk, w_ownOf, p_var, p_non, p_bl, p_int, p_str, p_glob, p_bin, p_neg, p_cmp, p_isN, p_isnotN, p_chain, p_and, p_or, p_not, p_ite, p_tup, p_lst, p_idx, p_cut, p_b1, p_isin, p_join, p_call, p_callK, p_comp, e_var, e_non, e_bl, e_int, e_str, e_glob, e_bin, e_neg, e_cmp, e_isN, e_isnotN, e_chain, e_and, e_or, e_not, e_ite, e_tup, e_lst, e_idx, e_cut, e_b1, e_isin, e_join, e_call, e_callK, e_comp, es_nil, es_cons, eo_none, eo_some, b_none, b_some, i_over', i_range', i_range2', i_zip', i_enum', it_lst, it_tup, it_str, z_lst, z_tup, en_lst, o_addI, o_addS, o_addL, o_sub, o_mul, o_mulL, o_fdiv, o_mod, o_pow, k_lt, k_le, k_gt, k_ge, k_eq, k_ne, k_inS, k_niS, k_V, f_lenL, f_lenT, f_lenS, f_intI, f_intB, f_listL, f_listT, f_all, f_any, x_lst, x_tup, x_str, c_L, c_S, j_L, w_execs, s_nil', s_cons', t_nx, t_ret, t_brk, t_ct, x_set, x_own, x_sha, x_retV, x_retN, x_if, x_for, x_expr, x_app, x_putI, x_putR, x_frz, x_pass, x_brk, x_cont, r_non, r_bl, r_int, r_str, r_glob, r_bin, r_neg, r_cmp, r_isN, r_isnotN, r_chain, r_and, r_or, r_not, r_ite, r_tup, r_lst, r_idx, r_cut, r_b1, r_isin, r_join, r_call, r_callK, r_comp, u_non, u_bl, u_int, u_str, u_ref, ixN_nn, fin_ret, fin_nx, List.map_cons, List.map_nil, List.cons_append, List.nil_append, List.append_nil, List.set_cons_succ, List.set_cons_zero, List.getElem?_cons_succ, List.getElem?_cons_zero, List.length_cons, List.length_nil, List.replicate_succ, List.replicate_zero, Option.some.injEq, Sl.val.injEq, Sl.own.injEq, D.lst.injEq, D.int.injEq, reduceCtorEq, or_false, false_or, and_true, true_and, exists_eq_left', exists_eq_left, Nat.reduceSub, Nat.reduceAdd, Nat.reduceLT, Nat.reduceLeDiff, Sl.pair, put, wipe, D.isNon, Bool.not_true, Bool.not_false, Option.bind_some, Int.reduceToNat, Int.reduceLE, Int.reduceLT, Int.cast_ofNat_Int, Int.natCast_add, decide_eq_true_eq, ite_true, ite_false, if_true, if_false, Bool.false_eq_true, gvs, hl]
  have key : ∀ (S : Store) (P : List D → Store → Prop), W (mapF (turnW gvs call [some (Sl.val (D.str t)), none] [1] [1] (E.cmp Cm.in_ (E.var 1) (E.glob 1)) Eo.none) (List.map (fun c => D.str [c]) t)) S P = P ((t.map LET.contains).map .bl) S := fun S P =>
    letters_map t (fun c hc => W.pure fun R hR => by
      rw [w_turn]
      simp only [W_ret, W_bind, W_guard, W_some, W_v, W_f, wv_non, wv_bl, wv_int, wv_str, wv_tup, wv_lst, wv_ref, w_objOf, w_setO, w_newO, w_asL, w_asI, w_asB, w_rd, w_pk, w_ownOf, p_var, p_non, p_bl, p_int, p_str, p_glob, p_bin, p_neg, p_cmp, p_isN, p_isnotN, p_chain, p_and, p_or, p_not, p_ite, p_tup, p_lst, p_idx, p_cut, p_b1, p_isin, p_join, p_call, p_callK, p_comp, e_var, e_non, e_bl, e_int, e_str, e_glob, e_bin, e_neg, e_cmp, e_isN, e_isnotN, e_chain, e_and, e_or, e_not, e_ite, e_tup, e_lst, e_idx, e_cut, e_b1, e_isin, e_join, e_call, e_callK, e_comp, es_nil, es_cons, eo_none, eo_some, b_none, b_some, i_over', i_range', i_range2', i_zip', i_enum', it_lst, it_tup, it_str, z_lst, z_tup, en_lst, o_addI, o_addS, o_addL, o_sub, o_mul, o_mulL, o_fdiv, o_mod, o_pow, k_lt, k_le, k_gt, k_ge, k_eq, k_ne, k_inS, k_niS, k_V, f_lenL, f_lenT, f_lenS, f_intI, f_intB, f_listL, f_listT, f_all, f_any, x_lst, x_tup, x_str, c_L, c_S, j_L, w_execs, s_nil', s_cons', t_nx, t_ret, t_brk, t_ct, x_set, x_own, x_sha, x_retV, x_retN, x_if, x_for, x_expr, x_app, x_putI, x_putR, x_frz, x_pass, x_brk, x_cont, r_non, r_bl, r_int, r_str, r_glob, r_bin, r_neg, r_cmp, r_isN, r_isnotN, r_chain, r_and, r_or, r_not, r_ite, r_tup, r_lst, r_idx, r_cut, r_b1, r_isin, r_join, r_call, r_callK, r_comp, u_non, u_bl, u_int, u_str, u_ref, ixN_nn, fin_ret, fin_nx, List.map_cons, List.map_nil, List.cons_append, List.nil_append, List.append_nil, List.set_cons_succ, List.set_cons_zero, List.getElem?_cons_succ, List.getElem?_cons_zero, List.length_cons, List.length_nil, List.replicate_succ, List.replicate_zero, Option.some.injEq, Sl.val.injEq, Sl.own.injEq, D.lst.injEq, D.int.injEq, reduceCtorEq, or_false, false_or, and_true, true_and, exists_eq_left', exists_eq_left, Nat.reduceSub, Nat.reduceAdd, Nat.reduceLT, Nat.reduceLeDiff, Sl.pair, put, wipe, D.isNon, Bool.not_true, Bool.not_false, Option.bind_some, Int.reduceToNat, Int.reduceLE, Int.reduceLT, Int.cast_ofNat_Int, Int.natCast_add, decide_eq_true_eq, ite_true, ite_false, if_true, if_false, Bool.false_eq_true, gvs]
      exact hR) P
  unfold isName
  split
  · split
    · rename_i h1 h2
      rw [if_pos ⟨h1, h2⟩]
      refine ⟨by rw [List.length_map]; exact hl, ?_⟩
      refine Eq.mpr (key S _) ?_
      rw [allB_map, W_some, List.all_map]
      exact ⟨rfl, rfl⟩
    · rename_i h1 h2
      rw [if_neg fun z => h2 z.2]
  · rename_i h1
    rw [if_neg fun z => h1 z.1]
end Dv

set_option Elab.async false
set_option linter.all false
set_option maxRecDepth 100000
set_option maxHeartbeats 4000000
namespace Dv
open K02
theorem join_nil : ∀ ts : List (List Nat), TL.joinL [] ts = ts.flatten
  | [] => rfl
  | [p] => by simp [TL.joinL]
  | p :: q :: r => by rw [TL.joinL, join_nil (q :: r)]; simp
def cl (n : Nat) : Nat → List D → M (D × Bool) := callS gvs fns cfs n
theorem pick_ok (n : Nat) : PickOk (cl (n + 1)) 0 := fun S m d many h1 h2 h3 h4 => by
  rw [cl, w_callS (c := ⟨2, false, []⟩) rfl, w_callF (fn := f2) rfl]
  exact pick_body h1 h2 h3 h4
theorem same_ok : ∀ (k n : Nat), SameOk (cl (n + k + 1)) 1 k
  | 0, n => fun S x hx => by
    rw [cl, w_callS (c := ⟨4, false, []⟩) rfl, w_callF (fn := f4) rfl]
    exact same_body (k := 0) (fun k' e => nomatch e) S x hx
  | k + 1, n => fun S x hx => by
    rw [cl, w_callS (c := ⟨4, false, []⟩) rfl, w_callF (fn := f4) rfl]
    exact same_body (k := k + 1) (fun k' e => by cases e; exact same_ok k n) S x hx
theorem same_at {n k : Nat} (h : k < n) : SameOk (cl n) 1 k := by
  obtain ⟨j, rfl⟩ : ∃ j, n = j + k + 1 := ⟨n - k - 1, by omega⟩
  exact same_ok k j
theorem ofS_ok (n : Nat) {S : Store} {m : Nat} {d : D} {t : List Nat} (hn : S[m]? = some d) (hd : Deal d) (h0 : 0 < t.length) (h1 : t.length < 1073741) :
    W (cl (n + 2) 3 [.ref m, .str t]) S fun v S' => ∃ c d', v = (.str [c], false) ∧ c ∈ t ∧ S' = S.set m d' ∧ Deal d' := by
  rw [cl, w_callS (c := ⟨3, false, []⟩) rfl, w_callF (fn := f3) rfl]
  exact of_bodyS (pick_ok n) hn hd h0 h1
theorem ofL_ok (n : Nat) {S : Store} {m : Nat} {d : D} {t : List D} (hn : S[m]? = some d) (hd : Deal d) (h0 : 0 < t.length) (h1 : t.length < 1073741) :
    W (cl (n + 2) 3 [.ref m, .lst t]) S fun v S' => ∃ c d', v = (c, false) ∧ c ∈ t ∧ S' = S.set m d' ∧ Deal d' := by
  rw [cl, w_callS (c := ⟨3, false, []⟩) rfl, w_callF (fn := f3) rfl]
  exact of_bodyL (pick_ok n) hn hd h0 h1
theorem name_ok (n : Nat) {S : Store} {t : List Nat} (hl : t.length ≤ line) : W (cl (n + 1) 5 [.str t]) S fun v S' => v = (.bl (isName t), false) ∧ S' = S := by
  rw [cl, w_callS (c := ⟨0, false, []⟩) rfl, w_callF (fn := f0) rfl]
  exact name_body hl
theorem nameK_ok (n : Nat) {S : Store} {t : List Nat} (hl : t.length ≤ line) : W (cl (n + 1) 4 [.str t]) S fun v S' => v = (.bl (isName t), false) ∧ S' = S := by
  rw [cl, w_callS (c := ⟨0, true, [0]⟩) rfl, w_callF (fn := f0) rfl]
  exact name_body hl
theorem deal_ok (n : Nat) {S : Store} {ns : List Int} (hl : ns.length ≤ 63) : W (cl (n + 1) 2 [.lst (ns.map .int)]) S fun v S' => ∃ d, v = (d, true) ∧ S' = S ∧ Deal d := by
  rw [cl, w_callS (c := ⟨1, false, []⟩) rfl, w_callF (fn := f1) rfl]
  exact deal_body (by omega)
theorem call_eq {n s : Nat} {xs : List D} {S : Store} {x : D × Bool} (h : W (cl n s xs) S fun v S' => v = x ∧ S' = S) (Q : D × Bool → Store → Prop) : W (cl n s xs) S Q = Q x S := by
  obtain ⟨v, S', e, e1, e2⟩ := h.ex
  subst e1 e2
  exact W_eq e
theorem due_ok {call : Nat → List D → M (D × Bool)} {a0 a1 a2 a4 a5 a6 a7 : Option Sl} {z : List Nat} {S : Store} {Q : D × Bool → Store → Prop} (hl : z.length ≤ line) :
    WE gvs call [a0, a1, a2, some (.val (.str z)), a4, a5, a6, a7] (.and (.chain .le .le (.int 1) (.b1 .len (.var 3)) (.int 6)) (.b1 .all (.comp [7] (.cmp .in_ (.var 7) (.str LET)) [7] (.over (.var 3)) .none))) S Q = Q (.bl (isName z), false) S := by
  have key : ∀ (S : Store) (P : List D → Store → Prop), W (mapF (turnW gvs call [a0, a1, a2, some (.val (.str z)), a4, a5, a6, a7] [7] [7] (E.cmp Cm.in_ (E.var 7) (E.str LET)) Eo.none) (List.map (fun c => D.str [c]) z)) S P = P ((z.map LET.contains).map .bl) S := fun S P =>
    letters_map z (fun c hc => W.pure fun R hR => by
      rw [w_turn]
      simp only [W_ret, W_bind, W_guard, W_some, W_v, W_f, wv_non, wv_bl, wv_int, wv_str, wv_tup, wv_lst, wv_ref, w_objOf, w_setO, w_newO, w_asL, w_asI, w_asB, w_rd, w_pk, w_ownOf, p_var, p_non, p_bl, p_int, p_str, p_glob, p_bin, p_neg, p_cmp, p_isN, p_isnotN, p_chain, p_and, p_or, p_not, p_ite, p_tup, p_lst, p_idx, p_cut, p_b1, p_isin, p_join, p_call, p_callK, p_comp, e_var, e_non, e_bl, e_int, e_str, e_glob, e_bin, e_neg, e_cmp, e_isN, e_isnotN, e_chain, e_and, e_or, e_not, e_ite, e_tup, e_lst, e_idx, e_cut, e_b1, e_isin, e_join, e_call, e_callK, e_comp, es_nil, es_cons, eo_none, eo_some, b_none, b_some, i_over', i_range', i_range2', i_zip', i_enum', it_lst, it_tup, it_str, z_lst, z_tup, en_lst, o_addI, o_addS, o_addL, o_sub, o_mul, o_mulL, o_fdiv, o_mod, o_pow, k_lt, k_le, k_gt, k_ge, k_eq, k_ne, k_inS, k_niS, k_V, f_lenL, f_lenT, f_lenS, f_intI, f_intB, f_listL, f_listT, f_all, f_any, x_lst, x_tup, x_str, c_L, c_S, j_L, w_execs, s_nil', s_cons', t_nx, t_ret, t_brk, t_ct, x_set, x_own, x_sha, x_retV, x_retN, x_if, x_for, x_expr, x_app, x_putI, x_putR, x_frz, x_pass, x_brk, x_cont, r_non, r_bl, r_int, r_str, r_glob, r_bin, r_neg, r_cmp, r_isN, r_isnotN, r_chain, r_and, r_or, r_not, r_ite, r_tup, r_lst, r_idx, r_cut, r_b1, r_isin, r_join, r_call, r_callK, r_comp, u_non, u_bl, u_int, u_str, u_ref, ixN_nn, fin_ret, fin_nx, List.map_cons, List.map_nil, List.cons_append, List.nil_append, List.append_nil, List.set_cons_succ, List.set_cons_zero, List.getElem?_cons_succ, List.getElem?_cons_zero, List.length_cons, List.length_nil, List.replicate_succ, List.replicate_zero, Option.some.injEq, Sl.val.injEq, Sl.own.injEq, D.lst.injEq, D.int.injEq, reduceCtorEq, or_false, false_or, and_true, true_and, exists_eq_left', exists_eq_left, Nat.reduceSub, Nat.reduceAdd, Nat.reduceLT, Nat.reduceLeDiff, Sl.pair, put, wipe, D.isNon, Bool.not_true, Bool.not_false, Option.bind_some, Int.reduceToNat, Int.reduceLE, Int.reduceLT, Int.cast_ofNat_Int, Int.natCast_add, decide_eq_true_eq, ite_true, ite_false, if_true, if_false, Bool.false_eq_true]
      exact hR) P
  have hm : (List.map (fun c => D.str [c]) z).length ≤ line := by rw [List.length_map]; exact hl
  simp only [W_ret, W_bind, W_guard, W_some, W_v, W_f, wv_non, wv_bl, wv_int, wv_str, wv_tup, wv_lst, wv_ref, w_objOf, w_setO, w_newO, w_asL, w_asI, w_asB, w_rd, w_pk, w_ownOf, p_var, p_non, p_bl, p_int, p_str, p_glob, p_bin, p_neg, p_cmp, p_isN, p_isnotN, p_chain, p_and, p_or, p_not, p_ite, p_tup, p_lst, p_idx, p_cut, p_b1, p_isin, p_join, p_call, p_callK, p_comp, e_var, e_non, e_bl, e_int, e_str, e_glob, e_bin, e_neg, e_cmp, e_isN, e_isnotN, e_chain, e_and, e_or, e_not, e_ite, e_tup, e_lst, e_idx, e_cut, e_b1, e_isin, e_join, e_call, e_callK, e_comp, es_nil, es_cons, eo_none, eo_some, b_none, b_some, i_over', i_range', i_range2', i_zip', i_enum', it_lst, it_tup, it_str, z_lst, z_tup, en_lst, o_addI, o_addS, o_addL, o_sub, o_mul, o_mulL, o_fdiv, o_mod, o_pow, k_lt, k_le, k_gt, k_ge, k_eq, k_ne, k_inS, k_niS, k_V, f_lenL, f_lenT, f_lenS, f_intI, f_intB, f_listL, f_listT, f_all, f_any, x_lst, x_tup, x_str, c_L, c_S, j_L, w_execs, s_nil', s_cons', t_nx, t_ret, t_brk, t_ct, x_set, x_own, x_sha, x_retV, x_retN, x_if, x_for, x_expr, x_app, x_putI, x_putR, x_frz, x_pass, x_brk, x_cont, r_non, r_bl, r_int, r_str, r_glob, r_bin, r_neg, r_cmp, r_isN, r_isnotN, r_chain, r_and, r_or, r_not, r_ite, r_tup, r_lst, r_idx, r_cut, r_b1, r_isin, r_join, r_call, r_callK, r_comp, u_non, u_bl, u_int, u_str, u_ref, ixN_nn, fin_ret, fin_nx, List.map_cons, List.map_nil, List.cons_append, List.nil_append, List.append_nil, List.set_cons_succ, List.set_cons_zero, List.getElem?_cons_succ, List.getElem?_cons_zero, List.length_cons, List.length_nil, List.replicate_succ, List.replicate_zero, Option.some.injEq, Sl.val.injEq, Sl.own.injEq, D.lst.injEq, D.int.injEq, reduceCtorEq, or_false, false_or, and_true, true_and, exists_eq_left', exists_eq_left, Nat.reduceSub, Nat.reduceAdd, Nat.reduceLT, Nat.reduceLeDiff, Sl.pair, put, wipe, D.isNon, Bool.not_true, Bool.not_false, Option.bind_some, Int.reduceToNat, Int.reduceLE, Int.reduceLT, Int.cast_ofNat_Int, Int.natCast_add, decide_eq_true_eq, ite_true, ite_false, if_true, if_false, Bool.false_eq_true, hl, hm, key, allB_map, List.all_map]
  unfold isName
  by_cases h1 : 1 ≤ (z.length : Int)
  · by_cases h2 : (z.length : Int) ≤ 6
    · rw [if_pos h1, if_pos h2, if_pos ⟨h1, h2⟩]; rfl
    · rw [if_pos h1, if_neg h2, if_neg fun q => h2 q.2]
  · rw [if_neg h1, if_neg fun q => h1 q.1]
theorem law_pure (ns : List Int) (hl : ns.length ≤ 63) : ∃ b S', callF gvs fns cfs 12 5 [.lst (ns.map .int)] [] = .ok (.bl true, b) S' := by
  have main : W (callF gvs fns cfs 12 5 [.lst (ns.map .int)]) [] fun v S' => v = (.bl true, false) := by
    rw [w_callF (fn := f5) rfl, w_body]
    unfold f5
    rw [show callS gvs fns cfs 11 = cl 11 from rfl]
    simp only [W_ret, W_bind, W_guard, W_some, W_v, W_f, wv_non, wv_bl, wv_int, wv_str, wv_tup, wv_lst, wv_ref, w_objOf, w_setO, w_newO, w_asL, w_asI, w_asB, w_rd, w_pk, w_ownOf, p_var, p_non, p_bl, p_int, p_str, p_glob, p_bin, p_neg, p_cmp, p_isN, p_isnotN, p_chain, p_and, p_or, p_not, p_ite, p_tup, p_lst, p_idx, p_cut, p_b1, p_isin, p_join, p_call, p_callK, p_comp, e_var, e_non, e_bl, e_int, e_str, e_glob, e_bin, e_neg, e_cmp, e_isN, e_isnotN, e_chain, e_and, e_or, e_not, e_ite, e_tup, e_lst, e_idx, e_cut, e_b1, e_isin, e_join, e_call, e_callK, e_comp, es_nil, es_cons, eo_none, eo_some, b_none, b_some, i_over', i_range', i_range2', i_zip', i_enum', it_lst, it_tup, it_str, z_lst, z_tup, en_lst, o_addI, o_addS, o_addL, o_sub, o_mul, o_mulL, o_fdiv, o_mod, o_pow, k_lt, k_le, k_gt, k_ge, k_eq, k_ne, k_inS, k_niS, k_V, f_lenL, f_lenT, f_lenS, f_intI, f_intB, f_listL, f_listT, f_all, f_any, x_lst, x_tup, x_str, c_L, c_S, j_L, w_execs, s_nil', s_cons', t_nx, t_ret, t_brk, t_ct, x_set, x_own, x_sha, x_retV, x_retN, x_if, x_for, x_expr, x_app, x_putI, x_putR, x_frz, x_pass, x_brk, x_cont, r_non, r_bl, r_int, r_str, r_glob, r_bin, r_neg, r_cmp, r_isN, r_isnotN, r_chain, r_and, r_or, r_not, r_ite, r_tup, r_lst, r_idx, r_cut, r_b1, r_isin, r_join, r_call, r_callK, r_comp, u_non, u_bl, u_int, u_str, u_ref, ixN_nn, fin_ret, fin_nx, List.map_cons, List.map_nil, List.cons_append, List.nil_append, List.append_nil, List.set_cons_succ, List.set_cons_zero, List.getElem?_cons_succ, List.getElem?_cons_zero, List.length_cons, List.length_nil, List.replicate_succ, List.replicate_zero, Option.some.injEq, Sl.val.injEq, Sl.own.injEq, D.lst.injEq, D.int.injEq, reduceCtorEq, or_false, false_or, and_true, true_and, exists_eq_left', exists_eq_left, Nat.reduceSub, Nat.reduceAdd, Nat.reduceLT, Nat.reduceLeDiff, Sl.pair, put, wipe, D.isNon, Bool.not_true, Bool.not_false, Option.bind_some, Int.reduceToNat, Int.reduceLE, Int.reduceLT, Int.cast_ofNat_Int, Int.natCast_add, decide_eq_true_eq, ite_true, ite_false, if_true, if_false, Bool.false_eq_true]
    refine (deal_ok 10 hl).mono fun v S' ⟨d, e1, e2, hd⟩ => ?_
    subst e1 e2
    simp only [W_ret, W_bind, W_guard, W_some, W_v, W_f, wv_non, wv_bl, wv_int, wv_str, wv_tup, wv_lst, wv_ref, w_objOf, w_setO, w_newO, w_asL, w_asI, w_asB, w_rd, w_pk, w_ownOf, p_var, p_non, p_bl, p_int, p_str, p_glob, p_bin, p_neg, p_cmp, p_isN, p_isnotN, p_chain, p_and, p_or, p_not, p_ite, p_tup, p_lst, p_idx, p_cut, p_b1, p_isin, p_join, p_call, p_callK, p_comp, e_var, e_non, e_bl, e_int, e_str, e_glob, e_bin, e_neg, e_cmp, e_isN, e_isnotN, e_chain, e_and, e_or, e_not, e_ite, e_tup, e_lst, e_idx, e_cut, e_b1, e_isin, e_join, e_call, e_callK, e_comp, es_nil, es_cons, eo_none, eo_some, b_none, b_some, i_over', i_range', i_range2', i_zip', i_enum', it_lst, it_tup, it_str, z_lst, z_tup, en_lst, o_addI, o_addS, o_addL, o_sub, o_mul, o_mulL, o_fdiv, o_mod, o_pow, k_lt, k_le, k_gt, k_ge, k_eq, k_ne, k_inS, k_niS, k_V, f_lenL, f_lenT, f_lenS, f_intI, f_intB, f_listL, f_listT, f_all, f_any, x_lst, x_tup, x_str, c_L, c_S, j_L, w_execs, s_nil', s_cons', t_nx, t_ret, t_brk, t_ct, x_set, x_own, x_sha, x_retV, x_retN, x_if, x_for, x_expr, x_app, x_putI, x_putR, x_frz, x_pass, x_brk, x_cont, r_non, r_bl, r_int, r_str, r_glob, r_bin, r_neg, r_cmp, r_isN, r_isnotN, r_chain, r_and, r_or, r_not, r_ite, r_tup, r_lst, r_idx, r_cut, r_b1, r_isin, r_join, r_call, r_callK, r_comp, u_non, u_bl, u_int, u_str, u_ref, ixN_nn, fin_ret, fin_nx, List.map_cons, List.map_nil, List.cons_append, List.nil_append, List.append_nil, List.set_cons_succ, List.set_cons_zero, List.getElem?_cons_succ, List.getElem?_cons_zero, List.length_cons, List.length_nil, List.replicate_succ, List.replicate_zero, Option.some.injEq, Sl.val.injEq, Sl.own.injEq, D.lst.injEq, D.int.injEq, reduceCtorEq, or_false, false_or, and_true, true_and, exists_eq_left', exists_eq_left, Nat.reduceSub, Nat.reduceAdd, Nat.reduceLT, Nat.reduceLeDiff, Sl.pair, put, wipe, D.isNon, Bool.not_true, Bool.not_false, Option.bind_some, Int.reduceToNat, Int.reduceLE, Int.reduceLT, Int.cast_ofNat_Int, Int.natCast_add, decide_eq_true_eq, ite_true, ite_false, if_true, if_false, Bool.false_eq_true]
    refine ⟨rfl, by decide, by decide, ?_⟩
    refine w_for (fun r ρ S => ∃ (d : D) (x2 x3 x4 x5 x6 x7 : Option Sl), Deal d ∧ S = [d] ∧ ρ = [some (.val (.lst (ns.map .int))), some (.val (.ref 0)), x2, x3, x4, x5, x6, x7]) ⟨d, _, _, _, _, _, _, hd, rfl, rfl⟩ ?_ ?_
    · rintro x r ρ S ⟨d, x2, x3, x4, x5, x6, x7, hd, rfl, rfl⟩
      simp only [W_bind, W_some, w_execs, put, List.set_cons_succ, List.set_cons_zero]
      rw [s_cons']
      simp only [W_ret, W_bind, W_guard, W_some, W_v, W_f, wv_non, wv_bl, wv_int, wv_str, wv_tup, wv_lst, wv_ref, w_objOf, w_setO, w_newO, w_asL, w_asI, w_asB, w_rd, w_pk, w_ownOf, p_var, p_non, p_bl, p_int, p_str, p_glob, p_bin, p_neg, p_cmp, p_isN, p_isnotN, p_chain, p_and, p_or, p_not, p_ite, p_tup, p_lst, p_idx, p_cut, p_b1, p_isin, p_join, p_call, p_callK, p_comp, e_var, e_non, e_bl, e_int, e_str, e_glob, e_bin, e_neg, e_cmp, e_isN, e_isnotN, e_chain, e_and, e_or, e_not, e_ite, e_tup, e_lst, e_idx, e_cut, e_b1, e_isin, e_join, e_call, e_callK, e_comp, es_nil, es_cons, eo_none, eo_some, b_none, b_some, i_over', i_range', i_range2', i_zip', i_enum', it_lst, it_tup, it_str, z_lst, z_tup, en_lst, o_addI, o_addS, o_addL, o_sub, o_mul, o_mulL, o_fdiv, o_mod, o_pow, k_lt, k_le, k_gt, k_ge, k_eq, k_ne, k_inS, k_niS, k_V, f_lenL, f_lenT, f_lenS, f_intI, f_intB, f_listL, f_listT, f_all, f_any, x_lst, x_tup, x_str, c_L, c_S, j_L, w_execs, s_nil', t_nx, t_ret, t_brk, t_ct, x_set, x_own, x_sha, x_retV, x_retN, x_if, x_for, x_expr, x_app, x_putI, x_putR, x_frz, x_pass, x_brk, x_cont, r_non, r_bl, r_int, r_str, r_glob, r_bin, r_neg, r_cmp, r_isN, r_isnotN, r_chain, r_and, r_or, r_not, r_ite, r_tup, r_lst, r_idx, r_cut, r_b1, r_isin, r_join, r_call, r_callK, r_comp, u_non, u_bl, u_int, u_str, u_ref, ixN_nn, fin_ret, fin_nx, List.map_cons, List.map_nil, List.cons_append, List.nil_append, List.append_nil, List.set_cons_succ, List.set_cons_zero, List.getElem?_cons_succ, List.getElem?_cons_zero, List.length_cons, List.length_nil, List.replicate_succ, List.replicate_zero, Option.some.injEq, Sl.val.injEq, Sl.own.injEq, D.lst.injEq, D.int.injEq, reduceCtorEq, or_false, false_or, and_true, true_and, exists_eq_left', exists_eq_left, Nat.reduceSub, Nat.reduceAdd, Nat.reduceLT, Nat.reduceLeDiff, Sl.pair, put, wipe, D.isNon, Bool.not_true, Bool.not_false, Option.bind_some, Int.reduceToNat, Int.reduceLE, Int.reduceLT, Int.cast_ofNat_Int, Int.natCast_add, decide_eq_true_eq, ite_true, ite_false, if_true, if_false, Bool.false_eq_true]
      refine (pick_ok 10 [d] 0 d 9 rfl hd (by decide) (by decide)).mono fun v S' ⟨v', d', e1, e2, hd', e4, e5⟩ => ?_
      subst e1 e2
      simp only [W_ret, W_bind, W_guard, W_some, W_v, W_f, wv_non, wv_bl, wv_int, wv_str, wv_tup, wv_lst, wv_ref, w_objOf, w_setO, w_newO, w_asL, w_asI, w_asB, w_rd, w_pk, w_ownOf, p_var, p_non, p_bl, p_int, p_str, p_glob, p_bin, p_neg, p_cmp, p_isN, p_isnotN, p_chain, p_and, p_or, p_not, p_ite, p_tup, p_lst, p_idx, p_cut, p_b1, p_isin, p_join, p_call, p_callK, p_comp, e_var, e_non, e_bl, e_int, e_str, e_glob, e_bin, e_neg, e_cmp, e_isN, e_isnotN, e_chain, e_and, e_or, e_not, e_ite, e_tup, e_lst, e_idx, e_cut, e_b1, e_isin, e_join, e_call, e_callK, e_comp, es_nil, es_cons, eo_none, eo_some, b_none, b_some, i_over', i_range', i_range2', i_zip', i_enum', it_lst, it_tup, it_str, z_lst, z_tup, en_lst, o_addI, o_addS, o_addL, o_sub, o_mul, o_mulL, o_fdiv, o_mod, o_pow, k_lt, k_le, k_gt, k_ge, k_eq, k_ne, k_inS, k_niS, k_V, f_lenL, f_lenT, f_lenS, f_intI, f_intB, f_listL, f_listT, f_all, f_any, x_lst, x_tup, x_str, c_L, c_S, j_L, w_execs, s_nil', t_nx, t_ret, t_brk, t_ct, x_set, x_own, x_sha, x_retV, x_retN, x_if, x_for, x_expr, x_app, x_putI, x_putR, x_frz, x_pass, x_brk, x_cont, r_non, r_bl, r_int, r_str, r_glob, r_bin, r_neg, r_cmp, r_isN, r_isnotN, r_chain, r_and, r_or, r_not, r_ite, r_tup, r_lst, r_idx, r_cut, r_b1, r_isin, r_join, r_call, r_callK, r_comp, u_non, u_bl, u_int, u_str, u_ref, ixN_nn, fin_ret, fin_nx, List.map_cons, List.map_nil, List.cons_append, List.nil_append, List.append_nil, List.set_cons_succ, List.set_cons_zero, List.getElem?_cons_succ, List.getElem?_cons_zero, List.length_cons, List.length_nil, List.replicate_succ, List.replicate_zero, Option.some.injEq, Sl.val.injEq, Sl.own.injEq, D.lst.injEq, D.int.injEq, reduceCtorEq, or_false, false_or, and_true, true_and, exists_eq_left', exists_eq_left, Nat.reduceSub, Nat.reduceAdd, Nat.reduceLT, Nat.reduceLeDiff, Sl.pair, put, wipe, D.isNon, Bool.not_true, Bool.not_false, Option.bind_some, Int.reduceToNat, Int.reduceLE, Int.reduceLT, Int.cast_ofNat_Int, Int.natCast_add, decide_eq_true_eq, ite_true, ite_false, if_true, if_false, Bool.false_eq_true]
      refine ⟨⟨by omega, by omega⟩, by simp [rangeL]; omega, ?_⟩
      refine w_mapF (fun i ys S => ∃ d ts, Deal d ∧ S = [d] ∧ ys = ts.map .str ∧ ts.length = i ∧ (ts.map List.length).sum ≤ i) ⟨d', [], hd', rfl, rfl, rfl, Nat.le_refl _⟩ ?_ ?_
      · rintro i ys y S _ ⟨d, ts, hd, rfl, rfl, hl1, hl2⟩
        rw [w_turn]
        simp only [W_ret, W_bind, W_guard, W_some, W_v, W_f, wv_non, wv_bl, wv_int, wv_str, wv_tup, wv_lst, wv_ref, w_objOf, w_setO, w_newO, w_asL, w_asI, w_asB, w_rd, w_pk, w_ownOf, p_var, p_non, p_bl, p_int, p_str, p_glob, p_bin, p_neg, p_cmp, p_isN, p_isnotN, p_chain, p_and, p_or, p_not, p_ite, p_tup, p_lst, p_idx, p_cut, p_b1, p_isin, p_join, p_call, p_callK, p_comp, e_var, e_non, e_bl, e_int, e_str, e_glob, e_bin, e_neg, e_cmp, e_isN, e_isnotN, e_chain, e_and, e_or, e_not, e_ite, e_tup, e_lst, e_idx, e_cut, e_b1, e_isin, e_join, e_call, e_callK, e_comp, es_nil, es_cons, eo_none, eo_some, b_none, b_some, i_over', i_range', i_range2', i_zip', i_enum', it_lst, it_tup, it_str, z_lst, z_tup, en_lst, o_addI, o_addS, o_addL, o_sub, o_mul, o_mulL, o_fdiv, o_mod, o_pow, k_lt, k_le, k_gt, k_ge, k_eq, k_ne, k_inS, k_niS, k_V, f_lenL, f_lenT, f_lenS, f_intI, f_intB, f_listL, f_listT, f_all, f_any, x_lst, x_tup, x_str, c_L, c_S, j_L, w_execs, s_nil', s_cons', t_nx, t_ret, t_brk, t_ct, x_set, x_own, x_sha, x_retV, x_retN, x_if, x_for, x_expr, x_app, x_putI, x_putR, x_frz, x_pass, x_brk, x_cont, r_non, r_bl, r_int, r_str, r_glob, r_bin, r_neg, r_cmp, r_isN, r_isnotN, r_chain, r_and, r_or, r_not, r_ite, r_tup, r_lst, r_idx, r_cut, r_b1, r_isin, r_join, r_call, r_callK, r_comp, u_non, u_bl, u_int, u_str, u_ref, ixN_nn, fin_ret, fin_nx, List.map_cons, List.map_nil, List.cons_append, List.nil_append, List.append_nil, List.set_cons_succ, List.set_cons_zero, List.getElem?_cons_succ, List.getElem?_cons_zero, List.length_cons, List.length_nil, List.replicate_succ, List.replicate_zero, Option.some.injEq, Sl.val.injEq, Sl.own.injEq, D.lst.injEq, D.int.injEq, reduceCtorEq, or_false, false_or, and_true, true_and, exists_eq_left', exists_eq_left, Nat.reduceSub, Nat.reduceAdd, Nat.reduceLT, Nat.reduceLeDiff, Sl.pair, put, wipe, D.isNon, Bool.not_true, Bool.not_false, Option.bind_some, Int.reduceToNat, Int.reduceLE, Int.reduceLT, Int.cast_ofNat_Int, Int.natCast_add, decide_eq_true_eq, ite_true, ite_false, if_true, if_false, Bool.false_eq_true]
        refine (ofS_ok 9 (m := 0) (d := d) rfl hd (by decide) (by decide)).mono fun v S' ⟨c, d', e1, _, e2, hd'⟩ => ?_
        subst e1 e2
        exact ⟨d', ts ++ [[c]], hd', rfl, by simp, by simp [hl1], by simp; omega⟩
      · rintro ys S ⟨d, ts, hd, rfl, rfl, hl1, hl2⟩
        have hn : (rangeL 0 v').length ≤ 8 := by simp [rangeL]; omega
        rw [allS_map, W_some]
        refine ⟨by show _ ≤ 16777216; simp; omega, ?_⟩
        have ht : (TL.joinL [] ts).length ≤ 8 := by rw [join_nil, List.length_flatten]; omega
        generalize TL.joinL [] ts = t at ht
        clear hn hl1 hl2 e4 e5
        have ht1 : t.length ≤ line := by show _ ≤ 16777216; omega
        rw [s_cons']
        simp only [W_ret, W_bind, W_guard, W_some, W_v, W_f, wv_non, wv_bl, wv_int, wv_str, wv_tup, wv_lst, wv_ref, w_objOf, w_setO, w_newO, w_asL, w_asI, w_asB, w_rd, w_pk, w_ownOf, p_var, p_non, p_bl, p_int, p_str, p_glob, p_bin, p_neg, p_cmp, p_isN, p_isnotN, p_chain, p_and, p_or, p_not, p_ite, p_tup, p_lst, p_idx, p_cut, p_b1, p_isin, p_join, p_call, p_callK, p_comp, e_var, e_non, e_bl, e_int, e_str, e_glob, e_bin, e_neg, e_cmp, e_isN, e_isnotN, e_chain, e_and, e_or, e_not, e_ite, e_tup, e_lst, e_idx, e_cut, e_b1, e_isin, e_join, e_call, e_callK, e_comp, es_nil, es_cons, eo_none, eo_some, b_none, b_some, i_over', i_range', i_range2', i_zip', i_enum', it_lst, it_tup, it_str, z_lst, z_tup, en_lst, o_addI, o_addS, o_addL, o_sub, o_mul, o_mulL, o_fdiv, o_mod, o_pow, k_lt, k_le, k_gt, k_ge, k_eq, k_ne, k_inS, k_niS, k_V, f_lenL, f_lenT, f_lenS, f_intI, f_intB, f_listL, f_listT, f_all, f_any, x_lst, x_tup, x_str, c_L, c_S, j_L, w_execs, s_nil', t_nx, t_ret, t_brk, t_ct, x_set, x_own, x_sha, x_retV, x_retN, x_if, x_for, x_expr, x_app, x_putI, x_putR, x_frz, x_pass, x_brk, x_cont, r_non, r_bl, r_int, r_str, r_glob, r_bin, r_neg, r_cmp, r_isN, r_isnotN, r_chain, r_and, r_or, r_not, r_ite, r_tup, r_lst, r_idx, r_cut, r_b1, r_isin, r_join, r_call, r_callK, r_comp, u_non, u_bl, u_int, u_str, u_ref, ixN_nn, fin_ret, fin_nx, List.map_cons, List.map_nil, List.cons_append, List.nil_append, List.append_nil, List.set_cons_succ, List.set_cons_zero, List.getElem?_cons_succ, List.getElem?_cons_zero, List.length_cons, List.length_nil, List.replicate_succ, List.replicate_zero, Option.some.injEq, Sl.val.injEq, Sl.own.injEq, D.lst.injEq, D.int.injEq, reduceCtorEq, or_false, false_or, and_true, true_and, exists_eq_left', exists_eq_left, Nat.reduceSub, Nat.reduceAdd, Nat.reduceLT, Nat.reduceLeDiff, Sl.pair, put, wipe, D.isNon, Bool.not_true, Bool.not_false, Option.bind_some, Int.reduceToNat, Int.reduceLE, Int.reduceLT, Int.cast_ofNat_Int, Int.natCast_add, decide_eq_true_eq, ite_true, ite_false, if_true, if_false, Bool.false_eq_true]
        refine ⟨ht1, (pick_ok 10 [d] 0 d _ rfl hd (by omega) (by omega)).mono fun v S' ⟨v', d', e1, e2, hd', e4, e5⟩ => ?_⟩
        subst e1 e2
        simp only [W_ret, W_bind, W_guard, W_some, W_v, W_f, wv_non, wv_bl, wv_int, wv_str, wv_tup, wv_lst, wv_ref, w_objOf, w_setO, w_newO, w_asL, w_asI, w_asB, w_rd, w_pk, w_ownOf, p_var, p_non, p_bl, p_int, p_str, p_glob, p_bin, p_neg, p_cmp, p_isN, p_isnotN, p_chain, p_and, p_or, p_not, p_ite, p_tup, p_lst, p_idx, p_cut, p_b1, p_isin, p_join, p_call, p_callK, p_comp, e_var, e_non, e_bl, e_int, e_str, e_glob, e_bin, e_neg, e_cmp, e_isN, e_isnotN, e_chain, e_and, e_or, e_not, e_ite, e_tup, e_lst, e_idx, e_cut, e_b1, e_isin, e_join, e_call, e_callK, e_comp, es_nil, es_cons, eo_none, eo_some, b_none, b_some, i_over', i_range', i_range2', i_zip', i_enum', it_lst, it_tup, it_str, z_lst, z_tup, en_lst, o_addI, o_addS, o_addL, o_sub, o_mul, o_mulL, o_fdiv, o_mod, o_pow, k_lt, k_le, k_gt, k_ge, k_eq, k_ne, k_inS, k_niS, k_V, f_lenL, f_lenT, f_lenS, f_intI, f_intB, f_listL, f_listT, f_all, f_any, x_lst, x_tup, x_str, c_L, c_S, j_L, w_execs, s_nil', t_nx, t_ret, t_brk, t_ct, x_set, x_own, x_sha, x_retV, x_retN, x_if, x_for, x_expr, x_app, x_putI, x_putR, x_frz, x_pass, x_brk, x_cont, r_non, r_bl, r_int, r_str, r_glob, r_bin, r_neg, r_cmp, r_isN, r_isnotN, r_chain, r_and, r_or, r_not, r_ite, r_tup, r_lst, r_idx, r_cut, r_b1, r_isin, r_join, r_call, r_callK, r_comp, u_non, u_bl, u_int, u_str, u_ref, ixN_nn, fin_ret, fin_nx, List.map_cons, List.map_nil, List.cons_append, List.nil_append, List.append_nil, List.set_cons_succ, List.set_cons_zero, List.getElem?_cons_succ, List.getElem?_cons_zero, List.length_cons, List.length_nil, List.replicate_succ, List.replicate_zero, Option.some.injEq, Sl.val.injEq, Sl.own.injEq, D.lst.injEq, D.int.injEq, reduceCtorEq, or_false, false_or, and_true, true_and, exists_eq_left', exists_eq_left, Nat.reduceSub, Nat.reduceAdd, Nat.reduceLT, Nat.reduceLeDiff, Sl.pair, put, wipe, D.isNon, Bool.not_true, Bool.not_false, Option.bind_some, Int.reduceToNat, Int.reduceLE, Int.reduceLT, Int.cast_ofNat_Int, Int.natCast_add, decide_eq_true_eq, ite_true, ite_false, if_true, if_false, Bool.false_eq_true]
        rw [s_cons']
        simp only [W_ret, W_bind, W_guard, W_some, W_v, W_f, wv_non, wv_bl, wv_int, wv_str, wv_tup, wv_lst, wv_ref, w_objOf, w_setO, w_newO, w_asL, w_asI, w_asB, w_rd, w_pk, w_ownOf, p_var, p_non, p_bl, p_int, p_str, p_glob, p_bin, p_neg, p_cmp, p_isN, p_isnotN, p_chain, p_and, p_or, p_not, p_ite, p_tup, p_lst, p_idx, p_cut, p_b1, p_isin, p_join, p_call, p_callK, p_comp, e_var, e_non, e_bl, e_int, e_str, e_glob, e_bin, e_neg, e_cmp, e_isN, e_isnotN, e_chain, e_and, e_or, e_not, e_ite, e_tup, e_lst, e_idx, e_cut, e_b1, e_isin, e_join, e_call, e_callK, e_comp, es_nil, es_cons, eo_none, eo_some, b_none, b_some, i_over', i_range', i_range2', i_zip', i_enum', it_lst, it_tup, it_str, z_lst, z_tup, en_lst, o_addI, o_addS, o_addL, o_sub, o_mul, o_mulL, o_fdiv, o_mod, o_pow, k_lt, k_le, k_gt, k_ge, k_eq, k_ne, k_inS, k_niS, k_V, f_lenL, f_lenT, f_lenS, f_intI, f_intB, f_listL, f_listT, f_all, f_any, x_lst, x_tup, x_str, c_L, c_S, j_L, w_execs, s_nil', t_nx, t_ret, t_brk, t_ct, x_set, x_own, x_sha, x_retV, x_retN, x_if, x_for, x_expr, x_app, x_putI, x_putR, x_frz, x_pass, x_brk, x_cont, r_non, r_bl, r_int, r_str, r_glob, r_bin, r_neg, r_cmp, r_isN, r_isnotN, r_chain, r_and, r_or, r_not, r_ite, r_tup, r_lst, r_idx, r_cut, r_b1, r_isin, r_join, r_call, r_callK, r_comp, u_non, u_bl, u_int, u_str, u_ref, ixN_nn, fin_ret, fin_nx, List.map_cons, List.map_nil, List.cons_append, List.nil_append, List.append_nil, List.set_cons_succ, List.set_cons_zero, List.getElem?_cons_succ, List.getElem?_cons_zero, List.length_cons, List.length_nil, List.replicate_succ, List.replicate_zero, Option.some.injEq, Sl.val.injEq, Sl.own.injEq, D.lst.injEq, D.int.injEq, reduceCtorEq, or_false, false_or, and_true, true_and, exists_eq_left', exists_eq_left, Nat.reduceSub, Nat.reduceAdd, Nat.reduceLT, Nat.reduceLeDiff, Sl.pair, put, wipe, D.isNon, Bool.not_true, Bool.not_false, Option.bind_some, Int.reduceToNat, Int.reduceLE, Int.reduceLT, Int.cast_ofNat_Int, Int.natCast_add, decide_eq_true_eq, ite_true, ite_false, if_true, if_false, Bool.false_eq_true]
        refine ⟨ht1, by decide, (ofL_ok 9 (m := 0) (d := d') rfl hd' (by decide) (by decide)).mono fun v S' ⟨c, d', e1, hc, e2, hd'⟩ => ?_⟩
        subst e1 e2
        have hcs : ∃ u : List Nat, c = .str u ∧ u.length ≤ 1 := by
          simp only [List.mem_cons, List.not_mem_nil, or_false] at hc
          rcases hc with rfl | rfl | rfl | rfl | rfl | rfl | rfl | rfl | rfl | rfl <;> exact ⟨_, rfl, by decide⟩
        obtain ⟨u, rfl, hu⟩ := hcs
        simp only [W_ret, W_bind, W_guard, W_some, W_v, W_f, wv_non, wv_bl, wv_int, wv_str, wv_tup, wv_lst, wv_ref, w_objOf, w_setO, w_newO, w_asL, w_asI, w_asB, w_rd, w_pk, w_ownOf, p_var, p_non, p_bl, p_int, p_str, p_glob, p_bin, p_neg, p_cmp, p_isN, p_isnotN, p_chain, p_and, p_or, p_not, p_ite, p_tup, p_lst, p_idx, p_cut, p_b1, p_isin, p_join, p_call, p_callK, p_comp, e_var, e_non, e_bl, e_int, e_str, e_glob, e_bin, e_neg, e_cmp, e_isN, e_isnotN, e_chain, e_and, e_or, e_not, e_ite, e_tup, e_lst, e_idx, e_cut, e_b1, e_isin, e_join, e_call, e_callK, e_comp, es_nil, es_cons, eo_none, eo_some, b_none, b_some, i_over', i_range', i_range2', i_zip', i_enum', it_lst, it_tup, it_str, z_lst, z_tup, en_lst, o_addI, o_addS, o_addL, o_sub, o_mul, o_mulL, o_fdiv, o_mod, o_pow, k_lt, k_le, k_gt, k_ge, k_eq, k_ne, k_inS, k_niS, k_V, f_lenL, f_lenT, f_lenS, f_intI, f_intB, f_listL, f_listT, f_all, f_any, x_lst, x_tup, x_str, c_L, c_S, j_L, w_execs, s_nil', t_nx, t_ret, t_brk, t_ct, x_set, x_own, x_sha, x_retV, x_retN, x_if, x_for, x_expr, x_app, x_putI, x_putR, x_frz, x_pass, x_brk, x_cont, r_non, r_bl, r_int, r_str, r_glob, r_bin, r_neg, r_cmp, r_isN, r_isnotN, r_chain, r_and, r_or, r_not, r_ite, r_tup, r_lst, r_idx, r_cut, r_b1, r_isin, r_join, r_call, r_callK, r_comp, u_non, u_bl, u_int, u_str, u_ref, ixN_nn, fin_ret, fin_nx, List.map_cons, List.map_nil, List.cons_append, List.nil_append, List.append_nil, List.set_cons_succ, List.set_cons_zero, List.getElem?_cons_succ, List.getElem?_cons_zero, List.length_cons, List.length_nil, List.replicate_succ, List.replicate_zero, Option.some.injEq, Sl.val.injEq, Sl.own.injEq, D.lst.injEq, D.int.injEq, reduceCtorEq, or_false, false_or, and_true, true_and, exists_eq_left', exists_eq_left, Nat.reduceSub, Nat.reduceAdd, Nat.reduceLT, Nat.reduceLeDiff, Sl.pair, put, wipe, D.isNon, Bool.not_true, Bool.not_false, Option.bind_some, Int.reduceToNat, Int.reduceLE, Int.reduceLT, Int.cast_ofNat_Int, Int.natCast_add, decide_eq_true_eq, ite_true, ite_false, if_true, if_false, Bool.false_eq_true]
        have k1 := cutL_len t none (some v')
        have k2 := cutL_len t (some v') none
        generalize cutL t none (some v') = t1 at k1
        generalize cutL t (some v') none = t2 at k2
        refine ⟨by show _ ≤ 16777216; omega, ht1, by show _ ≤ 16777216; rw [List.length_append]; omega, ?_⟩
        have hz : (t1 ++ u ++ t2).length ≤ line := by show _ ≤ 16777216; rw [List.length_append, List.length_append]; omega
        generalize t1 ++ u ++ t2 = z at hz
        rw [s_cons', x_set, due_ok hz]
        simp only [W_ret, W_bind, W_guard, W_some, W_v, W_f, wv_non, wv_bl, wv_int, wv_str, wv_tup, wv_lst, wv_ref, w_objOf, w_setO, w_newO, w_asL, w_asI, w_asB, w_rd, w_pk, w_ownOf, p_var, p_non, p_bl, p_int, p_str, p_glob, p_bin, p_neg, p_cmp, p_isN, p_isnotN, p_chain, p_and, p_or, p_not, p_ite, p_tup, p_lst, p_idx, p_cut, p_b1, p_isin, p_join, p_call, p_callK, p_comp, e_var, e_non, e_bl, e_int, e_str, e_glob, e_bin, e_neg, e_cmp, e_isN, e_isnotN, e_chain, e_and, e_or, e_not, e_ite, e_tup, e_lst, e_idx, e_cut, e_b1, e_isin, e_join, e_call, e_callK, e_comp, es_nil, es_cons, eo_none, eo_some, b_none, b_some, i_over', i_range', i_range2', i_zip', i_enum', it_lst, it_tup, it_str, z_lst, z_tup, en_lst, o_addI, o_addS, o_addL, o_sub, o_mul, o_mulL, o_fdiv, o_mod, o_pow, k_lt, k_le, k_gt, k_ge, k_eq, k_ne, k_inS, k_niS, k_V, f_lenL, f_lenT, f_lenS, f_intI, f_intB, f_listL, f_listT, f_all, f_any, x_lst, x_tup, x_str, c_L, c_S, j_L, w_execs, s_nil', t_nx, t_ret, t_brk, t_ct, x_set, x_own, x_sha, x_retV, x_retN, x_if, x_for, x_expr, x_app, x_putI, x_putR, x_frz, x_pass, x_brk, x_cont, r_non, r_bl, r_int, r_str, r_glob, r_bin, r_neg, r_cmp, r_isN, r_isnotN, r_chain, r_and, r_or, r_not, r_ite, r_tup, r_lst, r_idx, r_cut, r_b1, r_isin, r_join, r_call, r_callK, r_comp, u_non, u_bl, u_int, u_str, u_ref, ixN_nn, fin_ret, fin_nx, List.map_cons, List.map_nil, List.cons_append, List.nil_append, List.append_nil, List.set_cons_succ, List.set_cons_zero, List.getElem?_cons_succ, List.getElem?_cons_zero, List.length_cons, List.length_nil, List.replicate_succ, List.replicate_zero, Option.some.injEq, Sl.val.injEq, Sl.own.injEq, D.lst.injEq, D.int.injEq, reduceCtorEq, or_false, false_or, and_true, true_and, exists_eq_left', exists_eq_left, Nat.reduceSub, Nat.reduceAdd, Nat.reduceLT, Nat.reduceLeDiff, Sl.pair, put, wipe, D.isNon, Bool.not_true, Bool.not_false, Option.bind_some, Int.reduceToNat, Int.reduceLE, Int.reduceLT, Int.cast_ofNat_Int, Int.natCast_add, decide_eq_true_eq, ite_true, ite_false, if_true, if_false, Bool.false_eq_true]
        rw [s_cons']
        simp only [W_ret, W_bind, W_guard, W_some, W_v, W_f, wv_non, wv_bl, wv_int, wv_str, wv_tup, wv_lst, wv_ref, w_objOf, w_setO, w_newO, w_asL, w_asI, w_asB, w_rd, w_pk, w_ownOf, p_var, p_non, p_bl, p_int, p_str, p_glob, p_bin, p_neg, p_cmp, p_isN, p_isnotN, p_chain, p_and, p_or, p_not, p_ite, p_tup, p_lst, p_idx, p_cut, p_b1, p_isin, p_join, p_call, p_callK, p_comp, e_var, e_non, e_bl, e_int, e_str, e_glob, e_bin, e_neg, e_cmp, e_isN, e_isnotN, e_chain, e_and, e_or, e_not, e_ite, e_tup, e_lst, e_idx, e_cut, e_b1, e_isin, e_join, e_call, e_callK, e_comp, es_nil, es_cons, eo_none, eo_some, b_none, b_some, i_over', i_range', i_range2', i_zip', i_enum', it_lst, it_tup, it_str, z_lst, z_tup, en_lst, o_addI, o_addS, o_addL, o_sub, o_mul, o_mulL, o_fdiv, o_mod, o_pow, k_lt, k_le, k_gt, k_ge, k_eq, k_ne, k_inS, k_niS, k_V, f_lenL, f_lenT, f_lenS, f_intI, f_intB, f_listL, f_listT, f_all, f_any, x_lst, x_tup, x_str, c_L, c_S, j_L, w_execs, s_nil', t_nx, t_ret, t_brk, t_ct, x_set, x_own, x_sha, x_retV, x_retN, x_if, x_for, x_expr, x_app, x_putI, x_putR, x_frz, x_pass, x_brk, x_cont, r_non, r_bl, r_int, r_str, r_glob, r_bin, r_neg, r_cmp, r_isN, r_isnotN, r_chain, r_and, r_or, r_not, r_ite, r_tup, r_lst, r_idx, r_cut, r_b1, r_isin, r_join, r_call, r_callK, r_comp, u_non, u_bl, u_int, u_str, u_ref, ixN_nn, fin_ret, fin_nx, List.map_cons, List.map_nil, List.cons_append, List.nil_append, List.append_nil, List.set_cons_succ, List.set_cons_zero, List.getElem?_cons_succ, List.getElem?_cons_zero, List.length_cons, List.length_nil, List.replicate_succ, List.replicate_zero, Option.some.injEq, Sl.val.injEq, Sl.own.injEq, D.lst.injEq, D.int.injEq, reduceCtorEq, or_false, false_or, and_true, true_and, exists_eq_left', exists_eq_left, Nat.reduceSub, Nat.reduceAdd, Nat.reduceLT, Nat.reduceLeDiff, Sl.pair, put, wipe, D.isNon, Bool.not_true, Bool.not_false, Option.bind_some, Int.reduceToNat, Int.reduceLE, Int.reduceLT, Int.cast_ofNat_Int, Int.natCast_add, decide_eq_true_eq, ite_true, ite_false, if_true, if_false, Bool.false_eq_true]
        rw [call_eq (name_ok 10 hz)]
        simp only [W_ret, W_bind, W_guard, W_some, W_v, W_f, wv_non, wv_bl, wv_int, wv_str, wv_tup, wv_lst, wv_ref, w_objOf, w_setO, w_newO, w_asL, w_asI, w_asB, w_rd, w_pk, w_ownOf, p_var, p_non, p_bl, p_int, p_str, p_glob, p_bin, p_neg, p_cmp, p_isN, p_isnotN, p_chain, p_and, p_or, p_not, p_ite, p_tup, p_lst, p_idx, p_cut, p_b1, p_isin, p_join, p_call, p_callK, p_comp, e_var, e_non, e_bl, e_int, e_str, e_glob, e_bin, e_neg, e_cmp, e_isN, e_isnotN, e_chain, e_and, e_or, e_not, e_ite, e_tup, e_lst, e_idx, e_cut, e_b1, e_isin, e_join, e_call, e_callK, e_comp, es_nil, es_cons, eo_none, eo_some, b_none, b_some, i_over', i_range', i_range2', i_zip', i_enum', it_lst, it_tup, it_str, z_lst, z_tup, en_lst, o_addI, o_addS, o_addL, o_sub, o_mul, o_mulL, o_fdiv, o_mod, o_pow, k_lt, k_le, k_gt, k_ge, k_eq, k_ne, k_inS, k_niS, k_V, f_lenL, f_lenT, f_lenS, f_intI, f_intB, f_listL, f_listT, f_all, f_any, x_lst, x_tup, x_str, c_L, c_S, j_L, w_execs, s_nil', t_nx, t_ret, t_brk, t_ct, x_set, x_own, x_sha, x_retV, x_retN, x_if, x_for, x_expr, x_app, x_putI, x_putR, x_frz, x_pass, x_brk, x_cont, r_non, r_bl, r_int, r_str, r_glob, r_bin, r_neg, r_cmp, r_isN, r_isnotN, r_chain, r_and, r_or, r_not, r_ite, r_tup, r_lst, r_idx, r_cut, r_b1, r_isin, r_join, r_call, r_callK, r_comp, u_non, u_bl, u_int, u_str, u_ref, ixN_nn, fin_ret, fin_nx, List.map_cons, List.map_nil, List.cons_append, List.nil_append, List.append_nil, List.set_cons_succ, List.set_cons_zero, List.getElem?_cons_succ, List.getElem?_cons_zero, List.length_cons, List.length_nil, List.replicate_succ, List.replicate_zero, Option.some.injEq, Sl.val.injEq, Sl.own.injEq, D.lst.injEq, D.int.injEq, reduceCtorEq, or_false, false_or, and_true, true_and, exists_eq_left', exists_eq_left, Nat.reduceSub, Nat.reduceAdd, Nat.reduceLT, Nat.reduceLeDiff, Sl.pair, put, wipe, D.isNon, Bool.not_true, Bool.not_false, Option.bind_some, Int.reduceToNat, Int.reduceLE, Int.reduceLT, Int.cast_ofNat_Int, Int.natCast_add, decide_eq_true_eq, ite_true, ite_false, if_true, if_false, Bool.false_eq_true]
        rw [call_eq (nameK_ok 10 hz)]
        simp only [W_ret, W_bind, W_guard, W_some, W_v, W_f, wv_non, wv_bl, wv_int, wv_str, wv_tup, wv_lst, wv_ref, w_objOf, w_setO, w_newO, w_asL, w_asI, w_asB, w_rd, w_pk, w_ownOf, p_var, p_non, p_bl, p_int, p_str, p_glob, p_bin, p_neg, p_cmp, p_isN, p_isnotN, p_chain, p_and, p_or, p_not, p_ite, p_tup, p_lst, p_idx, p_cut, p_b1, p_isin, p_join, p_call, p_callK, p_comp, e_var, e_non, e_bl, e_int, e_str, e_glob, e_bin, e_neg, e_cmp, e_isN, e_isnotN, e_chain, e_and, e_or, e_not, e_ite, e_tup, e_lst, e_idx, e_cut, e_b1, e_isin, e_join, e_call, e_callK, e_comp, es_nil, es_cons, eo_none, eo_some, b_none, b_some, i_over', i_range', i_range2', i_zip', i_enum', it_lst, it_tup, it_str, z_lst, z_tup, en_lst, o_addI, o_addS, o_addL, o_sub, o_mul, o_mulL, o_fdiv, o_mod, o_pow, k_lt, k_le, k_gt, k_ge, k_eq, k_ne, k_inS, k_niS, k_V, f_lenL, f_lenT, f_lenS, f_intI, f_intB, f_listL, f_listT, f_all, f_any, x_lst, x_tup, x_str, c_L, c_S, j_L, w_execs, s_nil', t_nx, t_ret, t_brk, t_ct, x_set, x_own, x_sha, x_retV, x_retN, x_if, x_for, x_expr, x_app, x_putI, x_putR, x_frz, x_pass, x_brk, x_cont, r_non, r_bl, r_int, r_str, r_glob, r_bin, r_neg, r_cmp, r_isN, r_isnotN, r_chain, r_and, r_or, r_not, r_ite, r_tup, r_lst, r_idx, r_cut, r_b1, r_isin, r_join, r_call, r_callK, r_comp, u_non, u_bl, u_int, u_str, u_ref, ixN_nn, fin_ret, fin_nx, List.map_cons, List.map_nil, List.cons_append, List.nil_append, List.append_nil, List.set_cons_succ, List.set_cons_zero, List.getElem?_cons_succ, List.getElem?_cons_zero, List.length_cons, List.length_nil, List.replicate_succ, List.replicate_zero, Option.some.injEq, Sl.val.injEq, Sl.own.injEq, D.lst.injEq, D.int.injEq, reduceCtorEq, or_false, false_or, and_true, true_and, exists_eq_left', exists_eq_left, Nat.reduceSub, Nat.reduceAdd, Nat.reduceLT, Nat.reduceLeDiff, Sl.pair, put, wipe, D.isNon, Bool.not_true, Bool.not_false, Option.bind_some, Int.reduceToNat, Int.reduceLE, Int.reduceLT, Int.cast_ofNat_Int, Int.natCast_add, decide_eq_true_eq, ite_true, ite_false, if_true, if_false, Bool.false_eq_true]
        refine ⟨by decide, ?_⟩
        rw [call_eq (same_at (n := 11) (k := 1) (by decide) _ _ rfl)]
        simp only [W_ret, W_bind, W_guard, W_some, W_v, W_f, wv_non, wv_bl, wv_int, wv_str, wv_tup, wv_lst, wv_ref, w_objOf, w_setO, w_newO, w_asL, w_asI, w_asB, w_rd, w_pk, w_ownOf, p_var, p_non, p_bl, p_int, p_str, p_glob, p_bin, p_neg, p_cmp, p_isN, p_isnotN, p_chain, p_and, p_or, p_not, p_ite, p_tup, p_lst, p_idx, p_cut, p_b1, p_isin, p_join, p_call, p_callK, p_comp, e_var, e_non, e_bl, e_int, e_str, e_glob, e_bin, e_neg, e_cmp, e_isN, e_isnotN, e_chain, e_and, e_or, e_not, e_ite, e_tup, e_lst, e_idx, e_cut, e_b1, e_isin, e_join, e_call, e_callK, e_comp, es_nil, es_cons, eo_none, eo_some, b_none, b_some, i_over', i_range', i_range2', i_zip', i_enum', it_lst, it_tup, it_str, z_lst, z_tup, en_lst, o_addI, o_addS, o_addL, o_sub, o_mul, o_mulL, o_fdiv, o_mod, o_pow, k_lt, k_le, k_gt, k_ge, k_eq, k_ne, k_inS, k_niS, k_V, f_lenL, f_lenT, f_lenS, f_intI, f_intB, f_listL, f_listT, f_all, f_any, x_lst, x_tup, x_str, c_L, c_S, j_L, w_execs, s_nil', t_nx, t_ret, t_brk, t_ct, x_set, x_own, x_sha, x_retV, x_retN, x_if, x_for, x_expr, x_app, x_putI, x_putR, x_frz, x_pass, x_brk, x_cont, r_non, r_bl, r_int, r_str, r_glob, r_bin, r_neg, r_cmp, r_isN, r_isnotN, r_chain, r_and, r_or, r_not, r_ite, r_tup, r_lst, r_idx, r_cut, r_b1, r_isin, r_join, r_call, r_callK, r_comp, u_non, u_bl, u_int, u_str, u_ref, ixN_nn, fin_ret, fin_nx, List.map_cons, List.map_nil, List.cons_append, List.nil_append, List.append_nil, List.set_cons_succ, List.set_cons_zero, List.getElem?_cons_succ, List.getElem?_cons_zero, List.length_cons, List.length_nil, List.replicate_succ, List.replicate_zero, Option.some.injEq, Sl.val.injEq, Sl.own.injEq, D.lst.injEq, D.int.injEq, reduceCtorEq, or_false, false_or, and_true, true_and, exists_eq_left', exists_eq_left, Nat.reduceSub, Nat.reduceAdd, Nat.reduceLT, Nat.reduceLeDiff, Sl.pair, put, wipe, D.isNon, Bool.not_true, Bool.not_false, Option.bind_some, Int.reduceToNat, Int.reduceLE, Int.reduceLT, Int.cast_ofNat_Int, Int.natCast_add, decide_eq_true_eq, ite_true, ite_false, if_true, if_false, Bool.false_eq_true]
        exact ⟨by decide, _, _, _, _, _, _, _, hd', rfl, rfl⟩
    · rintro ρ S ⟨d, x2, x3, x4, x5, x6, x7, hd, rfl, rfl⟩
      simp only [W_ret, W_bind, W_guard, W_some, W_v, W_f, wv_non, wv_bl, wv_int, wv_str, wv_tup, wv_lst, wv_ref, w_objOf, w_setO, w_newO, w_asL, w_asI, w_asB, w_rd, w_pk, w_ownOf, p_var, p_non, p_bl, p_int, p_str, p_glob, p_bin, p_neg, p_cmp, p_isN, p_isnotN, p_chain, p_and, p_or, p_not, p_ite, p_tup, p_lst, p_idx, p_cut, p_b1, p_isin, p_join, p_call, p_callK, p_comp, e_var, e_non, e_bl, e_int, e_str, e_glob, e_bin, e_neg, e_cmp, e_isN, e_isnotN, e_chain, e_and, e_or, e_not, e_ite, e_tup, e_lst, e_idx, e_cut, e_b1, e_isin, e_join, e_call, e_callK, e_comp, es_nil, es_cons, eo_none, eo_some, b_none, b_some, i_over', i_range', i_range2', i_zip', i_enum', it_lst, it_tup, it_str, z_lst, z_tup, en_lst, o_addI, o_addS, o_addL, o_sub, o_mul, o_mulL, o_fdiv, o_mod, o_pow, k_lt, k_le, k_gt, k_ge, k_eq, k_ne, k_inS, k_niS, k_V, f_lenL, f_lenT, f_lenS, f_intI, f_intB, f_listL, f_listT, f_all, f_any, x_lst, x_tup, x_str, c_L, c_S, j_L, w_execs, s_nil', s_cons', t_nx, t_ret, t_brk, t_ct, x_set, x_own, x_sha, x_retV, x_retN, x_if, x_for, x_expr, x_app, x_putI, x_putR, x_frz, x_pass, x_brk, x_cont, r_non, r_bl, r_int, r_str, r_glob, r_bin, r_neg, r_cmp, r_isN, r_isnotN, r_chain, r_and, r_or, r_not, r_ite, r_tup, r_lst, r_idx, r_cut, r_b1, r_isin, r_join, r_call, r_callK, r_comp, u_non, u_bl, u_int, u_str, u_ref, ixN_nn, fin_ret, fin_nx, List.map_cons, List.map_nil, List.cons_append, List.nil_append, List.append_nil, List.set_cons_succ, List.set_cons_zero, List.getElem?_cons_succ, List.getElem?_cons_zero, List.length_cons, List.length_nil, List.replicate_succ, List.replicate_zero, Option.some.injEq, Sl.val.injEq, Sl.own.injEq, D.lst.injEq, D.int.injEq, reduceCtorEq, or_false, false_or, and_true, true_and, exists_eq_left', exists_eq_left, Nat.reduceSub, Nat.reduceAdd, Nat.reduceLT, Nat.reduceLeDiff, Sl.pair, put, wipe, D.isNon, Bool.not_true, Bool.not_false, Option.bind_some, Int.reduceToNat, Int.reduceLE, Int.reduceLT, Int.cast_ofNat_Int, Int.natCast_add, decide_eq_true_eq, ite_true, ite_false, if_true, if_false, Bool.false_eq_true]
      rw [call_eq (name_ok 10 (by decide))]
      simp only [W_ret, W_bind, W_guard, W_some, W_v, W_f, wv_non, wv_bl, wv_int, wv_str, wv_tup, wv_lst, wv_ref, w_objOf, w_setO, w_newO, w_asL, w_asI, w_asB, w_rd, w_pk, w_ownOf, p_var, p_non, p_bl, p_int, p_str, p_glob, p_bin, p_neg, p_cmp, p_isN, p_isnotN, p_chain, p_and, p_or, p_not, p_ite, p_tup, p_lst, p_idx, p_cut, p_b1, p_isin, p_join, p_call, p_callK, p_comp, e_var, e_non, e_bl, e_int, e_str, e_glob, e_bin, e_neg, e_cmp, e_isN, e_isnotN, e_chain, e_and, e_or, e_not, e_ite, e_tup, e_lst, e_idx, e_cut, e_b1, e_isin, e_join, e_call, e_callK, e_comp, es_nil, es_cons, eo_none, eo_some, b_none, b_some, i_over', i_range', i_range2', i_zip', i_enum', it_lst, it_tup, it_str, z_lst, z_tup, en_lst, o_addI, o_addS, o_addL, o_sub, o_mul, o_mulL, o_fdiv, o_mod, o_pow, k_lt, k_le, k_gt, k_ge, k_eq, k_ne, k_inS, k_niS, k_V, f_lenL, f_lenT, f_lenS, f_intI, f_intB, f_listL, f_listT, f_all, f_any, x_lst, x_tup, x_str, c_L, c_S, j_L, w_execs, s_nil', s_cons', t_nx, t_ret, t_brk, t_ct, x_set, x_own, x_sha, x_retV, x_retN, x_if, x_for, x_expr, x_app, x_putI, x_putR, x_frz, x_pass, x_brk, x_cont, r_non, r_bl, r_int, r_str, r_glob, r_bin, r_neg, r_cmp, r_isN, r_isnotN, r_chain, r_and, r_or, r_not, r_ite, r_tup, r_lst, r_idx, r_cut, r_b1, r_isin, r_join, r_call, r_callK, r_comp, u_non, u_bl, u_int, u_str, u_ref, ixN_nn, fin_ret, fin_nx, List.map_cons, List.map_nil, List.cons_append, List.nil_append, List.append_nil, List.set_cons_succ, List.set_cons_zero, List.getElem?_cons_succ, List.getElem?_cons_zero, List.length_cons, List.length_nil, List.replicate_succ, List.replicate_zero, Option.some.injEq, Sl.val.injEq, Sl.own.injEq, D.lst.injEq, D.int.injEq, reduceCtorEq, or_false, false_or, and_true, true_and, exists_eq_left', exists_eq_left, Nat.reduceSub, Nat.reduceAdd, Nat.reduceLT, Nat.reduceLeDiff, Sl.pair, put, wipe, D.isNon, Bool.not_true, Bool.not_false, Option.bind_some, Int.reduceToNat, Int.reduceLE, Int.reduceLT, Int.cast_ofNat_Int, Int.natCast_add, decide_eq_true_eq, ite_true, ite_false, if_true, if_false, Bool.false_eq_true]
      rw [if_pos (by decide), call_eq (name_ok 10 (by decide))]
      simp only [W_ret, W_bind, W_guard, W_some, W_v, W_f, wv_non, wv_bl, wv_int, wv_str, wv_tup, wv_lst, wv_ref, w_objOf, w_setO, w_newO, w_asL, w_asI, w_asB, w_rd, w_pk, w_ownOf, p_var, p_non, p_bl, p_int, p_str, p_glob, p_bin, p_neg, p_cmp, p_isN, p_isnotN, p_chain, p_and, p_or, p_not, p_ite, p_tup, p_lst, p_idx, p_cut, p_b1, p_isin, p_join, p_call, p_callK, p_comp, e_var, e_non, e_bl, e_int, e_str, e_glob, e_bin, e_neg, e_cmp, e_isN, e_isnotN, e_chain, e_and, e_or, e_not, e_ite, e_tup, e_lst, e_idx, e_cut, e_b1, e_isin, e_join, e_call, e_callK, e_comp, es_nil, es_cons, eo_none, eo_some, b_none, b_some, i_over', i_range', i_range2', i_zip', i_enum', it_lst, it_tup, it_str, z_lst, z_tup, en_lst, o_addI, o_addS, o_addL, o_sub, o_mul, o_mulL, o_fdiv, o_mod, o_pow, k_lt, k_le, k_gt, k_ge, k_eq, k_ne, k_inS, k_niS, k_V, f_lenL, f_lenT, f_lenS, f_intI, f_intB, f_listL, f_listT, f_all, f_any, x_lst, x_tup, x_str, c_L, c_S, j_L, w_execs, s_nil', s_cons', t_nx, t_ret, t_brk, t_ct, x_set, x_own, x_sha, x_retV, x_retN, x_if, x_for, x_expr, x_app, x_putI, x_putR, x_frz, x_pass, x_brk, x_cont, r_non, r_bl, r_int, r_str, r_glob, r_bin, r_neg, r_cmp, r_isN, r_isnotN, r_chain, r_and, r_or, r_not, r_ite, r_tup, r_lst, r_idx, r_cut, r_b1, r_isin, r_join, r_call, r_callK, r_comp, u_non, u_bl, u_int, u_str, u_ref, ixN_nn, fin_ret, fin_nx, List.map_cons, List.map_nil, List.cons_append, List.nil_append, List.append_nil, List.set_cons_succ, List.set_cons_zero, List.getElem?_cons_succ, List.getElem?_cons_zero, List.length_cons, List.length_nil, List.replicate_succ, List.replicate_zero, Option.some.injEq, Sl.val.injEq, Sl.own.injEq, D.lst.injEq, D.int.injEq, reduceCtorEq, or_false, false_or, and_true, true_and, exists_eq_left', exists_eq_left, Nat.reduceSub, Nat.reduceAdd, Nat.reduceLT, Nat.reduceLeDiff, Sl.pair, put, wipe, D.isNon, Bool.not_true, Bool.not_false, Option.bind_some, Int.reduceToNat, Int.reduceLE, Int.reduceLT, Int.cast_ofNat_Int, Int.natCast_add, decide_eq_true_eq, ite_true, ite_false, if_true, if_false, Bool.false_eq_true]
      rw [if_pos (by decide), call_eq (name_ok 10 (by decide))]
      rfl
  obtain ⟨v, S', e, h⟩ := main.ex
  subst h
  exact ⟨false, S', e⟩
end Dv
theorem PySem.Challenge.cw_standfont_k02_names_holds : PySem.Challenge.rw_standfont_k02_names.Holds :=
  K02.holds Dv.law_pure
