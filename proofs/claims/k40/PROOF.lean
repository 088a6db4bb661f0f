import PyProof.Rows.All
import HandS.ForMost
import HandS.TupAny
import HandS.Wide
import HandS.IsInst
import HandS.Text
import HandS.Zip
import HandS.NoneIn
import HandS.Style
import PySem.Challenge.RW_modegoals_k40_words_kept
section
set_option Elab.async false
set_option linter.all false
/-! DL1: plain data, a small syntax, its evaluator. -/
namespace DL
open PySem

/-- plain data -/
inductive D where
  | non | bl (b : Bool) | int (i : Int) | str (x : Str)
  | tup (xs : List D) | lst (xs : List D)
deriving Inhabited

/-- a value: plain data, or an object that changes, by its number in the store; or the script -/
inductive Vl where
  | d (x : D) | h (n : Nat) | scr (ns : List Int)
deriving Inhabited

/-- what an expression hands back: a value, or a new list that nobody else holds -/
inductive Rv where
  | v (x : Vl) | own (xs : List Vl)
deriving Inhabited

/-- an object that changes -/
inductive MO where
  | lst (xs : List Vl)
  | ins (c : Str) (fs : List (Str × Vl))
deriving Inhabited

abbrev Env := List (Option Rv)
abbrev Sto := List MO

inductive R (α : Type) where
  | ok (a : α) (ρ : Env) (S : Sto)
  | no
def R.bind {α β : Type} (m : R α) (f : α → Env → Sto → R β) : R β :=
  match m with
  | .ok a ρ S => f a ρ S
  | .no => .no
@[simp] theorem R.bind_ok {α β : Type} (a : α) (ρ : Env) (S : Sto) (f : α → Env → Sto → R β) : (R.ok a ρ S).bind f = f a ρ S := rfl
@[simp] theorem R.bind_no {α β : Type} (f : α → Env → Sto → R β) : (R.no : R α).bind f = .no := rfl
def lift {α : Type} (o : Option α) (ρ : Env) (S : Sto) : R α :=
  match o with
  | some a => .ok a ρ S
  | none => .no
@[simp] theorem lift_some {α : Type} (a : α) (ρ : Env) (S : Sto) : lift (some a) ρ S = .ok a ρ S := rfl
@[simp] theorem lift_none {α : Type} (ρ : Env) (S : Sto) : lift (none : Option α) ρ S = .no := rfl

/-- all plain -/
def datas : List Vl → Option (List D)
  | [] => some []
  | .d x :: r => match datas r with
    | some ds => some (x :: ds)
    | none => none
  | .h _ :: _ => none
  | .scr _ :: _ => none
@[simp] theorem datas_nil : datas [] = some [] := rfl
@[simp] theorem datas_map (ds : List D) : datas (ds.map Vl.d) = some ds := by
  induction ds with
  | nil => rfl
  | cons a r ih => simp [datas, ih]
/-- nobody changes it from now on -/
def Rv.fz : Rv → Option Vl
  | .v x => some x
  | .own xs => match datas xs with
    | some ds => some (.d (.lst ds))
    | none => none
def Vl.data : Vl → Option D
  | .d x => some x
  | .h _ => none
  | .scr _ => none

/-! ### primitive operations -/
inductive Ty where
  | tuple | bool | int | str | list
deriving DecidableEq
inductive Op where
  | add | sub | mul | fdiv | mod | pow | shl | neg
  | eq | ne | lt | le | gt | ge | isN | notN
  | ix | sl (lo hi : Bool) | rev
  | len | int | tuple | list | all | isi (t : Ty)
deriving DecidableEq

/-- Python's == of plain data (None: not told here) -/
def D.flat : D → Bool
  | .tup _ => false
  | .lst _ => false
  | _ => true

mutual
/-- == -/
def D.eqv : D → D → Bool
  | .non, .non => true
  | .bl a, .bl b => a == b
  | .bl a, .int j => (if a then 1 else 0 : Int) == j
  | .int i, .bl b => i == (if b then 1 else 0 : Int)
  | .int i, .int j => i == j
  | .str x, .str y => x == y
  | .tup xs, .tup ys => D.eqvs xs ys
  | .lst xs, .lst ys => D.eqvs xs ys
  | _, _ => false
def D.eqvs : List D → List D → Bool
  | [], [] => true
  | x :: xs, y :: ys => D.eqv x y && D.eqvs xs ys
  | _, _ => false
end
mutual
/-- at most n tuples or lists within one another -/
def D.deep : Nat → D → Bool
  | n, .tup xs => match n with | 0 => false | n + 1 => D.deeps n xs
  | n, .lst xs => match n with | 0 => false | n + 1 => D.deeps n xs
  | _, _ => true
def D.deeps : Nat → List D → Bool
  | _, [] => true
  | n, x :: xs => D.deep n x && D.deeps n xs
end
def eqD (a b : D) : Option Bool := if D.deep 150 a || D.deep 150 b then some (D.eqv a b) else none

def b2I (b : Bool) : Int := if b then 1 else 0

def ixD (xs : List D) (i : Int) : Option D := L2.atI xs i

/-- a slice's cut -/
def cut {α : Type} (xs : List α) (lo hi : Option Int) : List α := (xs.drop (HT.sIx xs.length 0 lo)).take (HT.sIx xs.length xs.length hi - HT.sIx xs.length 0 lo)

def isTy : Ty → D → Bool
  | .tuple, .tup _ => true
  | .list, .lst _ => true
  | .bool, .bl _ => true
  | .int, .bl _ => true
  | .int, .int _ => true
  | .str, .str _ => true
  | _, _ => false

def big : Nat := 1000000
def bools : List D → Option (List Bool)
  | [] => some []
  | .bl b :: r => match bools r with | some bs => some (b :: bs) | none => none
  | _ :: _ => none
def small (i : Int) : Bool := decide (-(2 ^ 64) < i) && decide (i < 2 ^ 64)

def ownD (ds : List D) : Rv := .own (ds.map .d)
def vD (d : D) : Rv := .v (.d d)

def addD : D → D → Option Rv
  | .int i, .int j => some (vD (.int (i + j)))
  | .str x, .str y => if x.length + y.length ≤ big then some (vD (.str (x ++ y))) else none
  | .tup xs, .tup ys => if xs.length + ys.length ≤ big then some (vD (.tup (xs ++ ys))) else none
  | .lst xs, .lst ys => if xs.length + ys.length ≤ big then some (ownD (xs ++ ys)) else none
  | _, _ => none
def subD : D → D → Option Rv
  | .int i, .int j => some (vD (.int (i - j)))
  | _, _ => none
def mulD : D → D → Option Rv
  | .int i, .int j => if small i || small j then some (vD (.int (i * j))) else none
  | .lst xs, .int k => if decide (-1000000 ≤ k) && decide (k ≤ 1000000) && decide (xs.length * k.toNat ≤ big) then some (ownD (List.replicate k.toNat xs).flatten) else none
  | _, _ => none
def fdivD : D → D → Option Rv
  | .int i, .int j => if decide (0 < j) && decide (j < 2 ^ 64) then some (vD (.int (i / j))) else none
  | _, _ => none
def modD : D → D → Option Rv
  | .int i, .int j => if decide (0 < j) then some (vD (.int (i % j))) else none
  | _, _ => none
def powD : D → D → Option Rv
  | .int i, .int j => if decide (0 ≤ j) && decide (j ≤ 1000) && small i then some (vD (.int (i ^ j.toNat))) else none
  | _, _ => none
def shlD : D → D → Option Rv
  | .int i, .int j => if decide (0 ≤ j) && decide (j ≤ 1000) && small i then some (vD (.int (i * 2 ^ j.toNat))) else none
  | _, _ => none
def ltD : D → D → Option Rv
  | .int i, .int j => some (vD (.bl (decide (i < j))))
  | _, _ => none
def leD : D → D → Option Rv
  | .int i, .int j => some (vD (.bl (decide (i ≤ j))))
  | _, _ => none
def gtD : D → D → Option Rv
  | .int i, .int j => some (vD (.bl (decide (j < i))))
  | _, _ => none
def geD : D → D → Option Rv
  | .int i, .int j => some (vD (.bl (decide (j ≤ i))))
  | _, _ => none
def ixDD : D → D → Option Rv
  | .tup xs, .int i => (L2.atI xs i).map vD
  | .lst xs, .int i => (L2.atI xs i).map vD
  | _, _ => none
def cutD : D → Option Int → Option Int → Option Rv
  | .tup xs, lo, hi => some (vD (.tup (cut xs lo hi)))
  | .lst xs, lo, hi => some (ownD (cut xs lo hi))
  | .str x, lo, hi => if x.length ≤ big then some (vD (.str ⟨(cut x.cps.toList lo hi).toArray⟩)) else none
  | _, _, _ => none
def negD : D → Option Rv
  | .int i => some (vD (.int (-i)))
  | _ => none
def isNon : D → Bool
  | .non => true
  | _ => false
def lenD : D → Option Rv
  | .tup xs => some (vD (.int xs.length))
  | .lst xs => some (vD (.int xs.length))
  | .str x => if x.length ≤ big then some (vD (.int x.length)) else none
  | _ => none
def intD : D → Option Rv
  | .int i => some (vD (.int i))
  | .bl b => some (vD (.int (b2I b)))
  | _ => none
def tupleD : D → Option Rv
  | .tup xs => some (vD (.tup xs))
  | .lst xs => some (vD (.tup xs))
  | _ => none
def listD : D → Option Rv
  | .tup xs => some (ownD xs)
  | .lst xs => some (ownD xs)
  | _ => none
def allD : D → Option Rv
  | .lst xs => (bools xs).map fun bs => vD (.bl (bs.all id))
  | _ => none
def revD : D → Option Rv
  | .tup xs => if xs.length ≤ big then some (vD (.tup xs.reverse)) else none
  | _ => none
def un (f : D → Option Rv) : List Vl → Option Rv
  | [.d a] => f a
  | _ => none
def bin (f : D → D → Option Rv) : List Vl → Option Rv
  | [.d a, .d b] => f a b
  | _ => none
/-- what is sliced: data, or the script -/
def slice : Vl → Option Int → Option Int → Option Rv
  | .d a, lo, hi => cutD a lo hi
  | .scr ns, lo, hi => some (ownD (cut (ns.map D.int) lo hi))
  | .h _, _, _ => none
def prim (o : Op) (vs : List Vl) (S : Sto) : Option Rv := match o with
  | .add => bin addD vs
  | .sub => bin subD vs
  | .mul => bin mulD vs
  | .fdiv => bin fdivD vs
  | .mod => bin modD vs
  | .pow => bin powD vs
  | .shl => bin shlD vs
  | .eq => bin (fun a b => (eqD a b).map fun c => vD (.bl c)) vs
  | .ne => bin (fun a b => (eqD a b).map fun c => vD (.bl (!c))) vs
  | .lt => bin ltD vs
  | .le => bin leD vs
  | .gt => bin gtD vs
  | .ge => bin geD vs
  | .neg => un negD vs
  | .isN => un (fun a => some (vD (.bl (isNon a)))) vs
  | .notN => un (fun a => some (vD (.bl (!isNon a)))) vs
  | .int => un intD vs
  | .tuple => un tupleD vs
  | .list => un listD vs
  | .all => un allD vs
  | .isi t => un (fun a => some (vD (.bl (isTy t a)))) vs
  | .rev => un revD vs
  | .len => match vs with
    | [.d a] => lenD a
    | [.scr ns] => some (vD (.int ns.length))
    | _ => none
  | .ix => match vs with
    | [.d a, .d b] => ixDD a b
    | [.h n, .d (.int i)] => match S[n]? with
      | some (.lst xs) => (L2.atI xs i).map .v
      | _ => none
    | _ => none
  | .sl lo hi => match lo, hi, vs with
    | false, false, [a] => slice a none none
    | true, false, [a, .d (.int i)] => slice a (some i) none
    | false, true, [a, .d (.int j)] => slice a none (some j)
    | true, true, [a, .d (.int i), .d (.int j)] => slice a (some i) (some j)
    | _, _, _ => none
end DL

end

section
set_option Elab.async false
set_option linter.all false
/-! DL2: the small syntax and its evaluator. -/
namespace DL
open PySem

mutual
/-- a target: names, tuples of targets -/
inductive TG where
  | nm (i : Nat) | tp (ts : TGL)
inductive TGL where
  | nil | cons (t : TG) (ts : TGL)
end
mutual
/-- expressions -/
inductive E where
  | var (i : Nat)
  | glob (x : Str)
  | gd (x : Str) (e : E) | gin (neg : Bool) (x : Str) (e : E) | glen (x : Str)
  | cst (c : D)
  | op (o : Op) (as : AL)
  | and (a b : E) | or (a b : E) | not (a : E)
  | ite (c a b : E)
  | tup (es : EL) | lst (es : EL) | newL (es : EL)
  | call (f : Nat) (es : EL)
  | comp (tg : TG) (it : IT) (elt : E) (own : List Nat)
  | compIf (tg : TG) (it : IT) (c elt : E) (own : List Nat)
  | newC (tg : TG) (it : IT) (elt : E) (own : List Nat)
/-- operands: an expression, or a name that is read when all the others are there -/
inductive AL where
  | nil | e (x : E) (as : AL) | pk (i : Nat) (as : AL)
inductive EL where
  | nil | cons (x : E) (es : EL)
/-- what a loop walks -/
inductive IT where
  | seq (e : E) | rng (e : E) | zip (a b : E)
end
mutual
inductive S where
  | asg (t : TG) (e : E)
  | setIx (i : Nat) (ix : E) (e : E)
  | app (i : Nat) (e : E)
  | par (i j : Nat) (a b : E)
  | ex (e : E)
  | ifs (c : E) (a b : SL)
  | fors (t : TG) (it : IT) (b : SL)
  | whl (c : E) (b : SL)
  | ret (e : E) | pass | cont | brk
inductive SL where
  | nil | cons (s : S) (ss : SL)
end

mutual
def bindT : TG → Vl → Sto → Env → Option Env
  | .nm i, v, _, ρ => some (ρ.set i (some (.v v)))
  | .tp ts, .d (.tup xs), S, ρ => bindTs ts (xs.map .d) S ρ
  | .tp ts, .h n, S, ρ => match S[n]? with
    | some (.lst xs) => bindTs ts xs S ρ
    | _ => none
  | .tp _, _, _, _ => none
def bindTs : TGL → List Vl → Sto → Env → Option Env
  | .nil, [], _, ρ => some ρ
  | .cons t ts, x :: xs, S, ρ => match bindT t x S ρ with
    | some ρ1 => bindTs ts xs S ρ1
    | none => none
  | _, _, _, _ => none
end

def wipe (ρ : Env) : List Nat → Env
  | [] => ρ
  | i :: is => (wipe ρ is).set i none
def unwipe (ρ0 ρ : Env) : List Nat → Env
  | [] => ρ
  | i :: is => match ρ0[i]? with
    | some x => (unwipe ρ0 ρ is).set i x
    | none => unwipe ρ0 ρ is
def noOwn (ρ : Env) (is : List Nat) : Bool := is.all fun i => match ρ[i]? with
  | some (some (.own _)) => false
  | _ => true

/-- a slot read, left as it is -/
def peek (ρ : Env) (i : Nat) : Option Vl := match ρ[i]? with
  | some (some r) => r.fz
  | _ => none
/-- a slot read, from now on held by somebody else too -/
def grab (ρ : Env) (i : Nat) : Option (Vl × Env) := match ρ[i]? with
  | some (some r) => match r.fz with
    | some v => some (v, ρ.set i (some (.v v)))
    | none => none
  | _ => none

def fzR (m : R Rv) : R Vl := m.bind fun r ρ S => lift r.fz ρ S

/-- a comprehension's turns -/
def turns (f : Vl → Env → Sto → R (Option Vl)) : List Vl → List Vl → Env → Sto → R (List Vl)
  | [], acc, ρ, S => .ok acc ρ S
  | x :: xs, acc, ρ, S => (f x ρ S).bind fun y ρ1 S1 => match y with
    | none => turns f xs acc ρ1 S1
    | some y => if acc.length < big then turns f xs (acc ++ [y]) ρ1 S1 else .no

inductive Fl where
  | nx | rt (r : Rv) | bk | ct
/-- a loop's turns -/
def loop (f : Vl → Env → Sto → R Fl) : List Vl → Env → Sto → R Fl
  | [], ρ, S => .ok .nx ρ S
  | x :: xs, ρ, S => (f x ρ S).bind fun fl ρ1 S1 => match fl with
    | .nx => loop f xs ρ1 S1
    | .ct => loop f xs ρ1 S1
    | .bk => .ok .nx ρ1 S1
    | .rt r => .ok (.rt r) ρ1 S1
def whileN (c : Env → Sto → R Vl) (f : Env → Sto → R Fl) : Nat → Env → Sto → R Fl
  | 0, _, _ => .no
  | n + 1, ρ, S => (c ρ S).bind fun b ρ1 S1 => match b with
    | .d (.bl true) => (f ρ1 S1).bind fun fl ρ2 S2 => match fl with
      | .nx => whileN c f n ρ2 S2
      | .ct => whileN c f n ρ2 S2
      | .bk => .ok .nx ρ2 S2
      | .rt r => .ok (.rt r) ρ2 S2
    | .d (.bl false) => .ok .nx ρ1 S1
    | _ => .no

/-- the items of what is walked -/
def items : Vl → Sto → Option (List Vl)
  | .d (.tup xs), _ => some (xs.map .d)
  | .d (.lst xs), _ => some (xs.map .d)
  | _, _ => none
def zipT : List D → List D → List Vl
  | x :: xs, y :: ys => .d (.tup [x, y]) :: zipT xs ys
  | _, _ => []
def zipI : Vl → Vl → Option (List Vl)
  | .d (.tup xs), .d (.tup ys) => some (zipT xs ys)
  | .d (.lst xs), .d (.lst ys) => some (zipT xs ys)
  | _, _ => none
def nats (n : Nat) : List Vl := (List.range n).map fun (k : Nat) => Vl.d (.int (k : Int))

abbrev Fns := Nat → List Vl → Sto → Option (Rv × Sto)
/-- the module's constants, its written dicts -/
structure Gls where
  c : Str → Option D
  d : Str → Option (List (Str × D))
def lookD (kvs : List (Str × D)) (k : Str) : Option D := (kvs.find? fun kv => kv.1 = k).map (·.2)
def gdGet : Option (List (Str × D)) → Vl → Option Rv
  | some kvs, .d (.str k) => (lookD kvs k).map vD
  | _, _ => none
def gdIn (neg : Bool) : Option (List (Str × D)) → Vl → Option Rv
  | some kvs, .d (.str k) => some (vD (.bl (neg != (lookD kvs k).isSome)))
  | _, _ => none
def gdLen : Option (List (Str × D)) → Option Rv
  | some kvs => some (vD (.int kvs.length))
  | none => none

section
variable (G : Gls) (F : Fns)
mutual
def ev : E → Env → Sto → R Rv
  | .var i, ρ, S => match grab ρ i with
    | some (v, ρ1) => .ok (.v v) ρ1 S
    | none => .no
  | .glob x, ρ, S => match G.c x with
    | some d => .ok (vD d) ρ S
    | none => .no
  | .gd x e, ρ, S => (fzR (ev e ρ S)).bind fun v ρ1 S1 => lift (gdGet (G.d x) v) ρ1 S1
  | .gin neg x e, ρ, S => (fzR (ev e ρ S)).bind fun v ρ1 S1 => lift (gdIn neg (G.d x) v) ρ1 S1
  | .glen x, ρ, S => lift (gdLen (G.d x)) ρ S
  | .cst c, ρ, S => .ok (vD c) ρ S
  | .op o as, ρ, S => (evA as ρ S).bind fun vs ρ1 S1 => lift (prim o vs S1) ρ1 S1
  | .and a b, ρ, S => (ev a ρ S).bind fun r ρ1 S1 => match r with
    | .v (.d (.bl true)) => ev b ρ1 S1
    | .v (.d (.bl false)) => .ok (vD (.bl false)) ρ1 S1
    | _ => .no
  | .or a b, ρ, S => (ev a ρ S).bind fun r ρ1 S1 => match r with
    | .v (.d (.bl true)) => .ok (vD (.bl true)) ρ1 S1
    | .v (.d (.bl false)) => ev b ρ1 S1
    | _ => .no
  | .not a, ρ, S => (ev a ρ S).bind fun r ρ1 S1 => match r with
    | .v (.d (.bl b)) => .ok (vD (.bl (!b))) ρ1 S1
    | _ => .no
  | .ite c a b, ρ, S => (ev c ρ S).bind fun r ρ1 S1 => match r with
    | .v (.d (.bl true)) => ev a ρ1 S1
    | .v (.d (.bl false)) => ev b ρ1 S1
    | _ => .no
  | .tup es, ρ, S => (evL es ρ S).bind fun vs ρ1 S1 => match datas vs with
    | some ds => .ok (vD (.tup ds)) ρ1 S1
    | none => .no
  | .lst es, ρ, S => (evL es ρ S).bind fun vs ρ1 S1 => .ok (.own vs) ρ1 S1
  | .newL es, ρ, S => (evL es ρ S).bind fun vs ρ1 S1 => .ok (.v (.h S1.length)) ρ1 (S1 ++ [.lst vs])
  | .call f es, ρ, S => (evL es ρ S).bind fun vs ρ1 S1 => match F f vs S1 with
    | some (r, S2) => .ok r ρ1 S2
    | none => .no
  | .comp tg it elt own, ρ, S => (evI it ρ S).bind fun xs ρ1 S1 =>
      if noOwn ρ1 own then
        (turns (fun x ρ S => match bindT tg x S (wipe ρ own) with
          | some ρ2 => (fzR (ev elt ρ2 S)).bind fun v ρ3 S3 => .ok (some v) ρ3 S3
          | none => .no) xs [] ρ1 S1).bind fun acc ρ2 S2 => .ok (.own acc) (unwipe ρ1 ρ2 own) S2
      else .no
  | .compIf tg it c elt own, ρ, S => (evI it ρ S).bind fun xs ρ1 S1 =>
      if noOwn ρ1 own then
        (turns (fun x ρ S => match bindT tg x S (wipe ρ own) with
          | some ρ2 => (ev c ρ2 S).bind fun r ρ3 S3 => match r with
            | .v (.d (.bl true)) => (fzR (ev elt ρ3 S3)).bind fun v ρ4 S4 => .ok (some v) ρ4 S4
            | .v (.d (.bl false)) => .ok none ρ3 S3
            | _ => .no
          | none => .no) xs [] ρ1 S1).bind fun acc ρ2 S2 => .ok (.own acc) (unwipe ρ1 ρ2 own) S2
      else .no
  | .newC tg it elt own, ρ, S => (evI it ρ S).bind fun xs ρ1 S1 =>
      if noOwn ρ1 own then
        (turns (fun x ρ S => match bindT tg x S (wipe ρ own) with
          | some ρ2 => (fzR (ev elt ρ2 S)).bind fun v ρ3 S3 => .ok (some v) ρ3 S3
          | none => .no) xs [] ρ1 S1).bind fun acc ρ2 S2 => .ok (.v (.h S2.length)) (unwipe ρ1 ρ2 own) (S2 ++ [.lst acc])
      else .no
def evA : AL → Env → Sto → R (List Vl)
  | .nil, ρ, S => .ok [] ρ S
  | .e x as, ρ, S => (fzR (ev x ρ S)).bind fun v ρ1 S1 => (evA as ρ1 S1).bind fun vs ρ2 S2 => .ok (v :: vs) ρ2 S2
  | .pk i as, ρ, S => match ρ[i]? with
    | some (some _) => (evA as ρ S).bind fun vs ρ1 S1 => match peek ρ1 i with
      | some v => .ok (v :: vs) ρ1 S1
      | none => .no
    | _ => .no
def evL : EL → Env → Sto → R (List Vl)
  | .nil, ρ, S => .ok [] ρ S
  | .cons x es, ρ, S => (fzR (ev x ρ S)).bind fun v ρ1 S1 => (evL es ρ1 S1).bind fun vs ρ2 S2 => .ok (v :: vs) ρ2 S2
def evI : IT → Env → Sto → R (List Vl)
  | .seq e, ρ, S => (fzR (ev e ρ S)).bind fun v ρ1 S1 => lift (items v S1) ρ1 S1
  | .rng e, ρ, S => (fzR (ev e ρ S)).bind fun v ρ1 S1 => match v with
    | .d (.int n) => if decide (-1000000 ≤ n) && decide (n ≤ 1000000) then .ok (nats n.toNat) ρ1 S1 else .no
    | _ => .no
  | .zip a b, ρ, S => (fzR (ev a ρ S)).bind fun v ρ1 S1 => (fzR (ev b ρ1 S1)).bind fun w ρ2 S2 => lift (zipI v w) ρ2 S2
end

/-- how many turns a while may take -/
def most : Nat := 1000000
mutual
def exec : S → Env → Sto → R Fl
  | .asg (.nm i) e, ρ, S => (ev G F e ρ S).bind fun r ρ1 S1 => .ok .nx (ρ1.set i (some r)) S1
  | .asg (.tp ts) e, ρ, S => (fzR (ev G F e ρ S)).bind fun v ρ1 S1 => match bindT (.tp ts) v S1 ρ1 with
    | some ρ2 => .ok .nx ρ2 S1
    | none => .no
  | .setIx i ix e, ρ, S => (fzR (ev G F e ρ S)).bind fun v ρ1 S1 => match ρ1[i]? with
    | some (some _) => (fzR (ev G F ix ρ1 S1)).bind fun k ρ2 S2 => match k, ρ2[i]? with
      | .d (.int j), some (some (.own xs)) => match L2.ixN xs.length j with
        | some m => .ok .nx (ρ2.set i (some (.own (xs.set m v)))) S2
        | none => .no
      | .d (.int j), some (some (.v (.h n))) => match S2[n]? with
        | some (.lst xs) => match L2.ixN xs.length j with
          | some m => .ok .nx ρ2 (S2.set n (.lst (xs.set m v)))
          | none => .no
        | _ => .no
      | _, _ => .no
    | _ => .no
  | .app i e, ρ, S => match ρ[i]? with
    | some (some (.own _)) => (fzR (ev G F e ρ S)).bind fun v ρ1 S1 => match ρ1[i]? with
      | some (some (.own xs)) => if xs.length < big then .ok .nx (ρ1.set i (some (.own (xs ++ [v])))) S1 else .no
      | _ => .no
    | _ => .no
  | .par i j a b, ρ, S => (fzR (ev G F a ρ S)).bind fun v ρ1 S1 => (fzR (ev G F b ρ1 S1)).bind fun w ρ2 S2 => .ok .nx ((ρ2.set i (some (.v v))).set j (some (.v w))) S2
  | .ex e, ρ, S => (fzR (ev G F e ρ S)).bind fun _ ρ1 S1 => .ok .nx ρ1 S1
  | .ifs c a b, ρ, S => (ev G F c ρ S).bind fun r ρ1 S1 => match r with
    | .v (.d (.bl true)) => execs a ρ1 S1
    | .v (.d (.bl false)) => execs b ρ1 S1
    | _ => .no
  | .fors t it b, ρ, S => (evI G F it ρ S).bind fun xs ρ1 S1 => loop (fun x ρ S => match bindT t x S ρ with
      | some ρ2 => execs b ρ2 S
      | none => .no) xs ρ1 S1
  | .whl c b, ρ, S => whileN (fun ρ S => fzR (ev G F c ρ S)) (fun ρ S => execs b ρ S) most ρ S
  | .ret (.var i), ρ, S => match ρ[i]? with
    | some (some r) => .ok (.rt r) ρ S
    | _ => .no
  | .ret e, ρ, S => (ev G F e ρ S).bind fun r ρ1 S1 => .ok (.rt r) ρ1 S1
  | .pass, ρ, S => .ok .nx ρ S
  | .cont, ρ, S => .ok .ct ρ S
  | .brk, ρ, S => .ok .bk ρ S
def execs : SL → Env → Sto → R Fl
  | .nil, ρ, S => .ok .nx ρ S
  | .cons s ss, ρ, S => (exec s ρ S).bind fun fl ρ1 S1 => match fl with
    | .nx => execs ss ρ1 S1
    | fl => .ok fl ρ1 S1
end
end

/-! ### defs -/
def Vl.below (n : Nat) : Vl → Bool
  | .d _ => true
  | .scr _ => true
  | .h k => decide (k < n)
def MO.below (n : Nat) : MO → Bool
  | .lst xs => xs.all (Vl.below n)
  | .ins _ fs => fs.all fun f => Vl.below n f.2
def Rv.below (n : Nat) : Rv → Bool
  | .v x => x.below n
  | .own xs => xs.all (Vl.below n)
/-- what nobody can reach any more is forgotten -/
def gc (n : Nat) (r : Rv) (S : Sto) : Sto := if r.below n && (S.take n).all (MO.below n) then S.take n else S
structure Def where
  np : Nat
  n : Nat
  body : SL
def runDef (G : Gls) (F : Fns) (d : Def) (vs : List Vl) (S : Sto) : Option (Rv × Sto) :=
  if vs.length = d.np then
    match execs G F d.body (vs.map (fun v => some (Rv.v v)) ++ List.replicate (d.n - d.np) none) S with
    | .ok (.rt r) _ S1 => some (r, gc S.length r S1)
    | .ok .nx _ S1 => some (vD .non, gc S.length (vD .non) S1)
    | _ => none
  else none
def fn (G : Gls) (T : Nat → Option Def) : Nat → Fns
  | 0, _, _, _ => none
  | k + 1, f, vs, S => match T f with
    | some d => runDef G (fn G T k) d vs S
    | none => none
end DL

end

section
set_option Elab.async false
set_option linter.all false
set_option autoImplicit false
/-! DL3: how plain data stands in the heap. -/
namespace DL
open PySem L2

abbrev Frag := PySem.W.Frag
/-- what is known beside the heap: objects of others, objects that stay as they are, the store's addresses -/
structure Gh where
  Pr : Addr → HO → Prop
  fz : Addr → Prop
  io : List Addr
def Gh.frz (g : Gh) (a : Addr) : Gh := { g with fz := fun b => g.fz b ∨ b = a }

def Kt (K : Frag) (a : Addr) (xs : List V) : Prop := ∃ (o : Obj) (its : Array Value) (n : Nat), K.lookup a = some o ∧ o.cls = .type "tuple" ∧ o.data = .seq its n ∧ its.size ≤ sizeLine ∧ Vals xs its.toList
def Kl (K : Frag) (a : Addr) (xs : List V) : Prop := ∃ (o : Obj) (its : Array Value) (n : Nat), K.lookup a = some o ∧ o.cls = .type "list" ∧ o.dict = none ∧ o.data = .seq its n ∧ its.size ≤ sizeLine ∧ Vals xs its.toList
def TupAt (K : Frag) (fz : Addr → Prop) (H : Hp) (a : Addr) (xs : List V) : Prop := (fz a ∧ Rd H a (.tup xs)) ∨ Kt K a xs
def LstAt (fz : Addr → Prop) (H : Hp) (a : Addr) (xs : List V) : Prop := fz a ∧ H a = some (.lst xs)
def ScrAt (K : Frag) (fz : Addr → Prop) (H : Hp) (a : Addr) (xs : List V) : Prop := (fz a ∧ Rd H a (.lst xs)) ∨ Kl K a xs
theorem TupAt.sq {K : Frag} {fz : Addr → Prop} {H : Hp} {a : Addr} {xs : List V} (h : TupAt K fz H a xs) : SqT K H a xs := h.elim (fun q => .inl q.2) .inr
theorem LstAt.sq {K : Frag} {fz : Addr → Prop} {H : Hp} {a : Addr} {xs : List V} (h : LstAt fz H a xs) : SqL K H a xs := SqL.of h.2
theorem ScrAt.sq {K : Frag} {fz : Addr → Prop} {H : Hp} {a : Addr} {xs : List V} (h : ScrAt K fz H a xs) : SqL K H a xs := h.elim (fun q => .inl q.2) .inr

mutual
def RD (K : Frag) (fz : Addr → Prop) (H : Hp) : D → V → Prop
  | .non, v => v = .non
  | .bl b, v => v = .bl b
  | .int i, v => v = .int i
  | .str x, v => v = .str x ∧ PySem.PyData.strOk x = true
  | .tup ds, v => ∃ a vs, v = .ref a ∧ TupAt K fz H a vs ∧ RDs K fz H ds vs
  | .lst ds, v => ∃ a vs, v = .ref a ∧ LstAt fz H a vs ∧ RDs K fz H ds vs
def RDs (K : Frag) (fz : Addr → Prop) (H : Hp) : List D → List V → Prop
  | [], vs => vs = []
  | d :: ds, vs => ∃ v r, vs = v :: r ∧ RD K fz H d v ∧ RDs K fz H ds r
end

/-- the heap grows: what stays stays -/
structure Ext (g : Gh) (H : Hp) (g' : Gh) (H' : Hp) : Prop where
  pr : g'.Pr = g.Pr
  fz : ∀ b, g.fz b → g'.fz b
  eq : ∀ b, g.fz b → H' b = H b
  io : g.io <+: g'.io
theorem Ext.refl (g : Gh) (H : Hp) : Ext g H g H := ⟨rfl, fun _ h => h, fun _ _ => rfl, List.prefix_refl _⟩
theorem Ext.trans {g g1 g2 : Gh} {H H1 H2 : Hp} (a : Ext g H g1 H1) (b : Ext g1 H1 g2 H2) : Ext g H g2 H2 :=
  ⟨b.pr.trans a.pr, fun c h => b.fz c (a.fz c h), fun c h => (b.eq c (a.fz c h)).trans (a.eq c h), a.io.trans b.io⟩

theorem Rd.to {H H' : Hp} {a : Addr} {u : HO} (e : H' a = H a) (h : Rd H a u) : Rd H' a u := by
  unfold Rd at *
  rw [e]
  exact h
theorem TupAt.mono {K : Frag} {fz fz' : Addr → Prop} {H H' : Hp} {a : Addr} {xs : List V} (h1 : ∀ b, fz b → fz' b) (h2 : ∀ b, fz b → H' b = H b) (h : TupAt K fz H a xs) : TupAt K fz' H' a xs :=
  h.elim (fun q => .inl ⟨h1 a q.1, Rd.to (h2 a q.1) q.2⟩) .inr
theorem LstAt.mono {fz fz' : Addr → Prop} {H H' : Hp} {a : Addr} {xs : List V} (h1 : ∀ b, fz b → fz' b) (h2 : ∀ b, fz b → H' b = H b) (h : LstAt fz H a xs) : LstAt fz' H' a xs :=
  ⟨h1 a h.1, (h2 a h.1).trans h.2⟩
theorem ScrAt.mono {K : Frag} {fz fz' : Addr → Prop} {H H' : Hp} {a : Addr} {xs : List V} (h1 : ∀ b, fz b → fz' b) (h2 : ∀ b, fz b → H' b = H b) (h : ScrAt K fz H a xs) : ScrAt K fz' H' a xs :=
  h.elim (fun q => .inl ⟨h1 a q.1, Rd.to (h2 a q.1) q.2⟩) .inr
mutual
theorem RD.mono {K : Frag} {fz fz' : Addr → Prop} {H H' : Hp} (h1 : ∀ b, fz b → fz' b) (h2 : ∀ b, fz b → H' b = H b) : ∀ (d : D) (v : V), RD K fz H d v → RD K fz' H' d v
  | .non, v, h => h
  | .bl b, v, h => h
  | .int i, v, h => h
  | .str x, v, h => h
  | .tup ds, v, h => by
    unfold RD at *
    obtain ⟨a, vs, e, t, q⟩ := h
    exact ⟨a, vs, e, t.mono h1 h2, RDs.mono h1 h2 ds vs q⟩
  | .lst ds, v, h => by
    unfold RD at *
    obtain ⟨a, vs, e, t, q⟩ := h
    exact ⟨a, vs, e, t.mono h1 h2, RDs.mono h1 h2 ds vs q⟩
theorem RDs.mono {K : Frag} {fz fz' : Addr → Prop} {H H' : Hp} (h1 : ∀ b, fz b → fz' b) (h2 : ∀ b, fz b → H' b = H b) : ∀ (ds : List D) (vs : List V), RDs K fz H ds vs → RDs K fz' H' ds vs
  | [], vs, h => h
  | d :: ds, vs, h => by
    unfold RDs at *
    obtain ⟨v, r, e, t, q⟩ := h
    exact ⟨v, r, e, RD.mono h1 h2 d v t, RDs.mono h1 h2 ds r q⟩
end

def RV (K : Frag) (g : Gh) (H : Hp) : Vl → V → Prop
  | .d x, v => RD K g.fz H x v
  | .h n, v => ∃ a, g.io[n]? = some a ∧ v = .ref a
  | .scr ns, v => ∃ a, v = .ref a ∧ ScrAt K g.fz H a (ns.map .int)
def RVs (K : Frag) (g : Gh) (H : Hp) : List Vl → List V → Prop
  | [], vs => vs = []
  | x :: xs, vs => ∃ v r, vs = v :: r ∧ RV K g H x v ∧ RVs K g H xs r
theorem pre_get {α : Type} {l l' : List α} {n : Nat} {a : α} (h : l <+: l') (e : l[n]? = some a) : l'[n]? = some a := by
  obtain ⟨t, rfl⟩ := h
  obtain ⟨hl, _⟩ := List.getElem?_eq_some_iff.mp e
  rw [List.getElem?_append_left hl]; exact e
theorem RV.mono {K : Frag} {g g' : Gh} {H H' : Hp} (x : Ext g H g' H') : ∀ {u : Vl} {v : V}, RV K g H u v → RV K g' H' u v
  | .d d, v, h => RD.mono x.fz x.eq d v h
  | .h n, v, h => by
    obtain ⟨a, e, q⟩ := h
    exact ⟨a, pre_get x.io e, q⟩
  | .scr ns, v, h => by
    obtain ⟨a, e, q⟩ := h
    exact ⟨a, e, q.mono x.fz x.eq⟩
theorem RVs.mono {K : Frag} {g g' : Gh} {H H' : Hp} (x : Ext g H g' H') : ∀ {us : List Vl} {vs : List V}, RVs K g H us vs → RVs K g' H' us vs
  | [], vs, h => h
  | u :: us, vs, h => by
    obtain ⟨v, r, e, t, q⟩ := h
    exact ⟨v, r, e, t.mono x, RVs.mono x q⟩
theorem RVs.length {K : Frag} {g : Gh} {H : Hp} : ∀ {us : List Vl} {vs : List V}, RVs K g H us vs → vs.length = us.length
  | [], vs, h => by have h : vs = [] := h; subst h; rfl
  | u :: us, vs, h => by
    obtain ⟨v, r, e, t, q⟩ := h
    subst e
    simp [RVs.length q]
theorem RDs.length {K : Frag} {fz : Addr → Prop} {H : Hp} : ∀ {us : List D} {vs : List V}, RDs K fz H us vs → vs.length = us.length
  | [], vs, h => by unfold RDs at h; subst h; rfl
  | u :: us, vs, h => by
    unfold RDs at h
    obtain ⟨v, r, e, t, q⟩ := h
    subst e
    simp [RDs.length q]
theorem RVs.datas {K : Frag} {g : Gh} {H : Hp} : ∀ {us : List Vl} {ds : List D} {vs : List V}, datas us = some ds → RVs K g H us vs → RDs K g.fz H ds vs
  | [], ds, vs, e, h => by
    simp only [DL.datas, Option.some.injEq] at e
    subst e
    have h : vs = [] := h
    unfold RDs; exact h
  | .d x :: us, ds, vs, e, h => by
    unfold DL.datas at e
    cases q : DL.datas us with
    | none => rw [q] at e; cases e
    | some r =>
      rw [q] at e
      cases e
      obtain ⟨v, r', e', t, q'⟩ := h
      unfold RDs
      exact ⟨v, r', e', t, RVs.datas q q'⟩
  | .h n :: us, ds, vs, e, h => by cases e
  | .scr n :: us, ds, vs, e, h => by cases e
theorem RDs.vs {K : Frag} {g : Gh} {H : Hp} : ∀ {ds : List D} {vs : List V}, RDs K g.fz H ds vs → RVs K g H (ds.map .d) vs
  | [], vs, h => by unfold RDs at h; exact h
  | d :: ds, vs, h => by
    unfold RDs at h
    obtain ⟨v, r, e, t, q⟩ := h
    exact ⟨v, r, e, t, RDs.vs q⟩
theorem RVs.get {K : Frag} {g : Gh} {H : Hp} : ∀ {us : List Vl} {vs : List V} {n : Nat} {u : Vl}, RVs K g H us vs → us[n]? = some u → ∃ v, vs[n]? = some v ∧ RV K g H u v
  | [], vs, n, u, h, e => by simp at e
  | x :: us, vs, 0, u, h, e => by
    obtain ⟨v, r, e', t, q⟩ := h
    subst e'
    simp at e; subst e
    exact ⟨v, rfl, t⟩
  | x :: us, vs, n + 1, u, h, e => by
    obtain ⟨v, r, e', t, q⟩ := h
    subst e'
    obtain ⟨w, h1, h2⟩ := RVs.get (n := n) (u := u) q (by simpa using e)
    exact ⟨w, by simpa using h1, h2⟩
theorem RVs.set {K : Frag} {g : Gh} {H : Hp} {u : Vl} {v : V} (hv : RV K g H u v) : ∀ {us : List Vl} {vs : List V} (n : Nat), RVs K g H us vs → RVs K g H (us.set n u) (vs.set n v)
  | [], vs, n, h => by have h : vs = [] := h; subst h; exact rfl
  | x :: us, vs, 0, h => by
    obtain ⟨w, r, e, t, q⟩ := h
    subst e
    exact ⟨v, r, rfl, hv, q⟩
  | x :: us, vs, n + 1, h => by
    obtain ⟨w, r, e, t, q⟩ := h
    subst e
    exact ⟨w, _, rfl, t, RVs.set hv n q⟩
theorem RVs.app {K : Frag} {g : Gh} {H : Hp} {ys : List Vl} {zs : List V} (hy : RVs K g H ys zs) : ∀ {us : List Vl} {vs : List V}, RVs K g H us vs → RVs K g H (us ++ ys) (vs ++ zs)
  | [], vs, h => by have h : vs = [] := h; subst h; exact hy
  | x :: us, vs, h => by
    obtain ⟨w, r, e, t, q⟩ := h
    subst e
    exact ⟨w, _, rfl, t, RVs.app hy q⟩
theorem RVs.one {K : Frag} {g : Gh} {H : Hp} {u : Vl} {v : V} (h : RV K g H u v) : RVs K g H [u] [v] := ⟨v, [], rfl, h, rfl⟩

/-- a list that nobody else holds -/
def OwnAt (K : Frag) (g : Gh) (H : Hp) (xs : List Vl) (v : V) : Prop :=
  ∃ a vs, v = .ref a ∧ H a = some (.lst vs) ∧ RVs K g H xs vs ∧ ¬ g.fz a ∧ a ∉ g.io ∧ ∀ o, ¬ g.Pr a o
def SlotOk (K : Frag) (g : Gh) (H : Hp) (r : Rv) (v : V) : Prop := match r with
  | .v x => RV K g H x v
  | .own xs => OwnAt K g H xs v
def MOk (K : Frag) (g : Gh) (H : Hp) (a : Addr) : MO → Prop
  | .lst xs => ∃ vs, H a = some (.lst vs) ∧ RVs K g H xs vs
  | .ins _ _ => False

/-- v is held by no slot -/
def Apart (ρ : Env) (σ : St) (v : V) : Prop := ∀ (i : Nat) (ys : List Vl), ρ[i]? = some (some (Rv.own ys)) → σ[i]? ≠ some (some v)

structure Rel (K : Frag) (g : Gh) (H : Hp) (S : Sto) (ρ : Env) (σ : St) : Prop where
  len : ρ.length = σ.length
  slot : ∀ (i : Nat) (r : Rv), ρ[i]? = some (some r) → ∃ v, σ[i]? = some (some v) ∧ SlotOk K g H r v
  inj : ∀ (i j : Nat) (xs ys : List Vl) (v : V), i ≠ j → ρ[i]? = some (some (Rv.own xs)) → ρ[j]? = some (some (Rv.own ys)) → σ[i]? = some (some v) → σ[j]? ≠ some (some v)
  iol : g.io.length = S.length
  ion : g.io.Nodup
  sto : ∀ (n : Nat) (a : Addr) (mo : MO), g.io[n]? = some a → S[n]? = some mo → MOk K g H a mo ∧ ¬ g.fz a ∧ ∀ o, ¬ g.Pr a o
  fzt : ∀ b, g.fz b → ∃ o, H b = some o
  prt : ∀ b o, g.Pr b o → H b = some o ∧ ¬ g.fz b

section
variable {K : Frag} {g g' : Gh} {H H' : Hp} {S : Sto} {ρ : Env} {σ : St}
theorem MOk.ext {a : Addr} {mo : MO} (x : Ext g H g' H') (h : MOk K g H a mo) (e : H' a = H a) : MOk K g' H' a mo := by
  cases mo with
  | lst xs =>
    obtain ⟨vs, h1, h2⟩ := h
    exact ⟨vs, by rw [e]; exact h1, h2.mono x⟩
  | ins c fs => exact h.elim
theorem MOk.some {a : Addr} {mo : MO} (h : MOk K g H a mo) : ∃ o, H a = some o := by
  cases mo with
  | lst xs => obtain ⟨vs, h1, h2⟩ := h; exact ⟨_, h1⟩
  | ins c fs => exact h.elim
theorem OwnAt.ext {xs : List Vl} {a : Addr} (x : Ext g H g' H') (h : OwnAt K g H xs (.ref a)) (e : H' a = H a) (hf : ¬ g'.fz a) (hi : a ∉ g'.io) : OwnAt K g' H' xs (.ref a) := by
  obtain ⟨b, vs, e1, h1, h2, h3, h4, h5⟩ := h
  cases e1
  exact ⟨a, vs, rfl, by rw [e]; exact h1, h2.mono x, hf, hi, by rw [x.pr]; exact h5⟩
/-- only new objects have come, and some of them stay as they are -/
theorem Rel.grow (R : Rel K g H S ρ σ) (hp : g'.Pr = g.Pr) (hi : g'.io = g.io) (hf : ∀ b, g.fz b → g'.fz b) (hn : ∀ b, g'.fz b → g.fz b ∨ H b = none) (hH : ∀ b o, H b = some o → H' b = some o) (ht : ∀ b, g'.fz b → ∃ o, H' b = some o) :
    Ext g H g' H' ∧ Rel K g' H' S ρ σ := by
  have nf : ∀ b o, H b = some o → ¬ g.fz b → ¬ g'.fz b := fun b o e n q => by
    rcases hn b q with z | z
    · exact n z
    · rw [e] at z; cases z
  have X : Ext g H g' H' := ⟨hp, hf, fun b hb => by obtain ⟨o, e⟩ := R.fzt b hb; rw [e]; exact hH b o e, by rw [hi]; exact List.prefix_refl _⟩
  refine ⟨X, ⟨R.len, fun i r e => ?_, R.inj, by rw [hi]; exact R.iol, by rw [hi]; exact R.ion, fun n a mo e1 e2 => ?_, ht, fun b o q => ?_⟩⟩
  · obtain ⟨v, h1, h2⟩ := R.slot i r e
    refine ⟨v, h1, ?_⟩
    cases r with
    | v x => exact RV.mono X h2
    | own xs =>
      obtain ⟨a, vs, e1, h3, h4, h5, h6, h7⟩ := h2
      exact ⟨a, vs, e1, hH a _ h3, h4.mono X, nf a _ h3 h5, by rw [hi]; exact h6, by rw [hp]; exact h7⟩
  · rw [hi] at e1
    obtain ⟨h1, h2, h3⟩ := R.sto n a mo e1 e2
    obtain ⟨o, e⟩ := h1.some
    exact ⟨h1.ext X (by rw [e]; exact hH a o e), nf a o e h2, by rw [hp]; exact h3⟩
  · rw [hp] at q
    obtain ⟨h1, h2⟩ := R.prt b o q
    exact ⟨hH b o h1, nf b o h1 h2⟩
/-- a new object that stays as it is -/
theorem Rel.laid (R : Rel K g H S ρ σ) {p : Addr} {o : HO} (hn : H p = none) : Ext g H (g.frz p) (upd H p o) ∧ Rel K (g.frz p) (upd H p o) S ρ σ :=
  R.grow rfl rfl (fun b h => .inl h) (fun b h => h.elim .inl fun e => .inr (by rw [e]; exact hn)) (fun b u e => by rw [upd_ne (ne_of_none e hn)]; exact e)
    fun b h => h.elim (fun q => by obtain ⟨u, e⟩ := R.fzt b q; exact ⟨u, by rw [upd_ne (ne_of_none e hn)]; exact e⟩) fun e => ⟨o, by rw [e]; exact upd_same⟩
/-- a new object -/
theorem Rel.laidO (R : Rel K g H S ρ σ) {p : Addr} {o : HO} (hn : H p = none) : Ext g H g (upd H p o) ∧ Rel K g (upd H p o) S ρ σ :=
  R.grow rfl rfl (fun b h => h) (fun b h => .inl h) (fun b u e => by rw [upd_ne (ne_of_none e hn)]; exact e)
    fun b h => by obtain ⟨u, e⟩ := R.fzt b h; exact ⟨u, by rw [upd_ne (ne_of_none e hn)]; exact e⟩
theorem Rel.io_some (R : Rel K g H S ρ σ) {a : Addr} (h : a ∈ g.io) : ∃ o, H a = some o := by
  obtain ⟨n, hn, e⟩ := List.mem_iff_getElem.mp h
  have e1 : g.io[n]? = some a := by rw [List.getElem?_eq_getElem hn, e]
  have hs : n < S.length := by rw [← R.iol]; exact hn
  exact (R.sto n a S[n] e1 (List.getElem?_eq_getElem hs)).1.some
theorem Rel.fresh_own (R : Rel K g H S ρ σ) {p : Addr} {xs : List Vl} {vs : List V} (hn : H p = none) (h : RVs K g H xs vs) : OwnAt K g (upd H p (.lst vs)) xs (.ref p) ∧ Apart ρ σ (.ref p) := by
  refine ⟨⟨p, vs, rfl, upd_same, h.mono (R.laidO hn).1, fun q => ?_, fun q => ?_, fun o q => ?_⟩, fun i ys e q => ?_⟩
  · obtain ⟨o, e⟩ := R.fzt p q; rw [hn] at e; cases e
  · obtain ⟨o, e⟩ := R.io_some q; rw [hn] at e; cases e
  · have := (R.prt p o q).1; rw [hn] at this; cases this
  · obtain ⟨v, h1, a, vs, e1, h2, _⟩ := R.slot i _ e
    rw [q] at h1
    have h1 := Option.some.inj (Option.some.inj h1)
    rw [← h1] at e1
    have e1 := V.ref.inj e1
    rw [← e1, hn] at h2
    cases h2
/-- an object that nobody holds is held to stay -/
theorem Rel.freeze (R : Rel K g H S ρ σ) {a : Addr} {o : HO} (ha : H a = some o) (hi : a ∉ g.io) (hp : ∀ o, ¬ g.Pr a o) (hs : Apart ρ σ (.ref a)) : Ext g H (g.frz a) H ∧ Rel K (g.frz a) H S ρ σ := by
  have X : Ext g H (g.frz a) H := ⟨rfl, fun b h => .inl h, fun _ _ => rfl, List.prefix_refl _⟩
  refine ⟨X, R.len, fun i r e => ?_, R.inj, R.iol, R.ion, fun n b mo e1 e2 => ?_, fun b h => ?_, fun b u q => ?_⟩
  · obtain ⟨v, h1, h2⟩ := R.slot i r e
    refine ⟨v, h1, ?_⟩
    cases r with
    | v x => exact RV.mono X h2
    | own xs =>
      obtain ⟨b, vs, e1, h3, h4, h5, h6, h7⟩ := h2
      refine ⟨b, vs, e1, h3, h4.mono X, fun q => ?_, h6, h7⟩
      rcases q with q | q
      · exact h5 q
      · subst q; subst e1; exact hs i xs e h1
  · obtain ⟨h1, h2, h3⟩ := R.sto n b mo e1 e2
    refine ⟨h1.ext X rfl, fun q => ?_, h3⟩
    rcases q with q | q
    · exact h2 q
    · subst q; exact hi (List.mem_of_getElem? e1)
  · rcases h with h | h
    · exact R.fzt b h
    · subst h; exact ⟨o, ha⟩
  · obtain ⟨h1, h2⟩ := R.prt b u q
    refine ⟨h1, fun z => ?_⟩
    rcases z with z | z
    · exact h2 z
    · subst z; exact hp u q
/-- a slot that gets a value -/
theorem Rel.set (R : Rel K g H S ρ σ) {i : Nat} {u : Vl} {v : V} (h : RV K g H u v) : Rel K g H S (ρ.set i (some (.v u))) (σ.set i (some v)) := by
  have old : ∀ {j : Nat} {xs : List Vl}, (ρ.set i (some (Rv.v u)))[j]? = some (some (.own xs)) → j ≠ i ∧ ρ[j]? = some (some (.own xs)) := fun {j xs} e => by
    by_cases hj : j = i
    · subst hj
      by_cases hl : j < ρ.length
      · rw [List.getElem?_set_self hl] at e; cases e
      · rw [List.getElem?_eq_none (by simpa using hl)] at e; cases e
    · rw [List.getElem?_set_ne (Ne.symm hj)] at e; exact ⟨hj, e⟩
  refine ⟨by simp [R.len], fun j r e => ?_, fun j k xs ys w hjk e1 e2 e3 => ?_, R.iol, R.ion, R.sto, R.fzt, R.prt⟩
  · by_cases hj : j = i
    · subst hj
      by_cases hl : j < ρ.length
      · rw [List.getElem?_set_self hl] at e
        cases e
        exact ⟨v, List.getElem?_set_self (by rw [← R.len]; exact hl), h⟩
      · rw [List.getElem?_eq_none (by simpa using hl)] at e; cases e
    · rw [List.getElem?_set_ne (Ne.symm hj)] at e
      obtain ⟨w, h1, h2⟩ := R.slot j r e
      exact ⟨w, by rw [List.getElem?_set_ne (Ne.symm hj)]; exact h1, h2⟩
  · obtain ⟨n1, e1⟩ := old e1
    obtain ⟨n2, e2⟩ := old e2
    rw [List.getElem?_set_ne (Ne.symm n1)] at e3
    rw [List.getElem?_set_ne (Ne.symm n2)]
    exact R.inj j k xs ys w hjk e1 e2 e3
end
end DL

end

section
set_option Elab.async false
set_option linter.all false
set_option autoImplicit false
set_option maxHeartbeats 1000000
/-! DL4: the primitive operations, on values. -/
namespace DL
open PySem L2

section
variable {K : Frag} {fz : Addr → Prop} {H : Hp}
theorem RDs.cons {d : D} {ds : List D} {v : V} {vs : List V} (h : RD K fz H d v) (t : RDs K fz H ds vs) : RDs K fz H (d :: ds) (v :: vs) := by
  unfold RDs; exact ⟨v, vs, rfl, h, t⟩
theorem RDs.nil : RDs K fz H [] [] := by unfold RDs; rfl
theorem RDs.app {es : List D} {ws : List V} (t : RDs K fz H es ws) : ∀ {ds : List D} {vs : List V}, RDs K fz H ds vs → RDs K fz H (ds ++ es) (vs ++ ws)
  | [], vs, h => by unfold RDs at h; subst h; exact t
  | d :: ds, vs, h => by
    unfold RDs at h
    obtain ⟨v, r, rfl, h1, h2⟩ := h
    exact RDs.cons h1 (RDs.app t h2)
theorem RDs.take : ∀ {ds : List D} {vs : List V} (n : Nat), RDs K fz H ds vs → RDs K fz H (ds.take n) (vs.take n)
  | [], vs, n, h => by unfold RDs at h; subst h; simp; exact RDs.nil
  | d :: ds, vs, 0, h => by simp; exact RDs.nil
  | d :: ds, vs, n + 1, h => by
    unfold RDs at h
    obtain ⟨v, r, rfl, h1, h2⟩ := h
    exact RDs.cons h1 (RDs.take n h2)
theorem RDs.drop : ∀ {ds : List D} {vs : List V} (n : Nat), RDs K fz H ds vs → RDs K fz H (ds.drop n) (vs.drop n)
  | [], vs, n, h => by unfold RDs at h; subst h; simp; exact RDs.nil
  | d :: ds, vs, 0, h => h
  | d :: ds, vs, n + 1, h => by
    unfold RDs at h
    obtain ⟨v, r, rfl, h1, h2⟩ := h
    exact RDs.drop n h2
theorem RDs.cut {ds : List D} {vs : List V} (h : RDs K fz H ds vs) (lo hi : Option Int) : RDs K fz H (cut ds lo hi) (cutV vs lo hi) := by
  unfold DL.cut cutV
  rw [h.length]
  exact (h.drop _).take _
theorem RDs.get : ∀ {ds : List D} {vs : List V} {n : Nat} {d : D}, RDs K fz H ds vs → ds[n]? = some d → ∃ v, vs[n]? = some v ∧ RD K fz H d v
  | [], vs, n, d, h, e => by simp at e
  | x :: ds, vs, 0, d, h, e => by
    unfold RDs at h
    obtain ⟨v, r, rfl, h1, h2⟩ := h
    simp at e; subst e
    exact ⟨v, rfl, h1⟩
  | x :: ds, vs, n + 1, d, h, e => by
    unfold RDs at h
    obtain ⟨v, r, rfl, h1, h2⟩ := h
    obtain ⟨w, q1, q2⟩ := RDs.get (n := n) (d := d) h2 (by simpa using e)
    exact ⟨w, by simpa using q1, q2⟩
theorem RDs.rep {ds : List D} {vs : List V} (h : RDs K fz H ds vs) : ∀ k : Nat, RDs K fz H (List.replicate k ds).flatten (List.replicate k vs).flatten
  | 0 => RDs.nil
  | k + 1 => by
    rw [List.replicate_succ, List.replicate_succ, List.flatten_cons, List.flatten_cons]
    exact RDs.app (RDs.rep h k) h
theorem RDs.rev : ∀ {ds : List D} {vs : List V}, RDs K fz H ds vs → RDs K fz H ds.reverse vs.reverse
  | [], vs, h => by unfold RDs at h; subst h; exact RDs.nil
  | d :: ds, vs, h => by
    unfold RDs at h
    obtain ⟨v, r, rfl, h1, h2⟩ := h
    rw [List.reverse_cons, List.reverse_cons]
    exact RDs.app (RDs.cons h1 RDs.nil) (RDs.rev h2)
theorem RDs.atI {ds : List D} {vs : List V} {i : Int} {d : D} (h : RDs K fz H ds vs) (e : atI ds i = some d) : ∃ v, atI vs i = some v ∧ RD K fz H d v := by
  unfold L2.atI at *
  rw [h.length]
  cases q : ixN ds.length i with
  | none => rw [q] at e; cases e
  | some j =>
    rw [q] at e
    exact h.get e
theorem RDs.ints : ∀ {ns : List Int} {vs : List V}, RDs K fz H (ns.map D.int) vs → vs = ns.map V.int
  | [], vs, h => by unfold RDs at h; exact h
  | n :: ns, vs, h => by
    simp only [List.map_cons] at h
    unfold RDs at h
    obtain ⟨v, r, rfl, h1, h2⟩ := h
    unfold RD at h1
    rw [h1, RDs.ints h2]; rfl
theorem RDs.of_ints : ∀ (ns : List Int), RDs K fz H (ns.map D.int) (ns.map V.int)
  | [] => RDs.nil
  | n :: ns => RDs.cons (by unfold RD; rfl) (RDs.of_ints ns)
theorem RDs.bools : ∀ {ds : List D} {bs : List Bool} {vs : List V}, bools ds = some bs → RDs K fz H ds vs → vs = bs.map V.bl
  | [], bs, vs, e, h => by
    simp only [DL.bools, Option.some.injEq] at e
    subst e
    unfold RDs at h; exact h
  | .bl b :: ds, bs, vs, e, h => by
    unfold DL.bools at e
    cases q : DL.bools ds with
    | none => rw [q] at e; cases e
    | some r =>
      rw [q] at e; cases e
      unfold RDs at h
      obtain ⟨v, r', rfl, h1, h2⟩ := h
      unfold RD at h1
      rw [h1, RDs.bools q h2]; rfl
  | .non :: ds, bs, vs, e, h => by cases e
  | .int _ :: ds, bs, vs, e, h => by cases e
  | .str _ :: ds, bs, vs, e, h => by cases e
  | .tup _ :: ds, bs, vs, e, h => by cases e
  | .lst _ :: ds, bs, vs, e, h => by cases e
end

/-- an operand -/
def RO (K : Frag) (g : Gh) (H : Hp) (u : Vl) (v : V) : Prop := match u with
  | .d (.lst ds) => ∃ a vs, v = .ref a ∧ H a = some (.lst vs) ∧ RDs K g.fz H ds vs
  | u => RV K g H u v
theorem RV.ro {K : Frag} {g : Gh} {H : Hp} {u : Vl} {v : V} (h : RV K g H u v) : RO K g H u v := by
  unfold RO
  split
  · rename_i ds
    have h : RD K g.fz H (.lst ds) v := h
    unfold RD at h
    obtain ⟨a, vs, e, q, t⟩ := h
    exact ⟨a, vs, e, q.2, t⟩
  · exact h
def ROs (K : Frag) (g : Gh) (H : Hp) : List Vl → List V → Prop
  | [], vs => vs = []
  | x :: xs, vs => ∃ v r, vs = v :: r ∧ RO K g H x v ∧ ROs K g H xs r
section
variable {K : Frag} {g : Gh} {H : Hp} {v : V}
theorem RO.int {i : Int} (h : RO K g H (.d (.int i)) v) : v = .int i := by
  have h : RD K g.fz H (.int i) v := h
  unfold RD at h; exact h
theorem RO.bl {i : Bool} (h : RO K g H (.d (.bl i)) v) : v = .bl i := by
  have h : RD K g.fz H (.bl i) v := h
  unfold RD at h; exact h
theorem RO.non (h : RO K g H (.d .non) v) : v = .non := by
  have h : RD K g.fz H .non v := h
  unfold RD at h; exact h
theorem RO.str {x : Str} (h : RO K g H (.d (.str x)) v) : v = .str x ∧ PyData.strOk x = true := by
  have h : RD K g.fz H (.str x) v := h
  unfold RD at h; exact h
theorem RO.tup {ds : List D} (h : RO K g H (.d (.tup ds)) v) : ∃ a vs, v = .ref a ∧ TupAt K g.fz H a vs ∧ RDs K g.fz H ds vs := by
  have h : RD K g.fz H (.tup ds) v := h
  unfold RD at h; exact h
theorem RO.lst {ds : List D} (h : RO K g H (.d (.lst ds)) v) : ∃ a vs, v = .ref a ∧ H a = some (.lst vs) ∧ RDs K g.fz H ds vs := h
end

/-- what is wanted behind an operation -/
def Post (K : Frag) (g : Gh) (H : Hp) (S : Sto) (ρ : Env) (σ : St) (r : Rv) (Q : VK) : Prop :=
  ∀ g' H' v, Ext g H g' H' → Rel K g' H' S ρ σ → SlotOk K g' H' r v → (∀ xs, r = .own xs → Apart ρ σ v) → Q v H'
section
variable {K : Frag} {g : Gh} {H : Hp} {S : Sto} {ρ : Env} {σ : St} {Q : VK}
theorem Post.same {x : Vl} {v : V} (P : Post K g H S ρ σ (.v x) Q) (R : Rel K g H S ρ σ) (h : RV K g H x v) : Q v H :=
  P g H v (Ext.refl _ _) R h fun xs e => nomatch e
theorem Post.dat {x : D} {v : V} (P : Post K g H S ρ σ (vD x) Q) (R : Rel K g H S ρ σ) (h : RD K g.fz H x v) : Q v H := P.same R h
theorem Post.bl {b : Bool} (P : Post K g H S ρ σ (vD (.bl b)) Q) (R : Rel K g H S ρ σ) : Q (.bl b) H := P.dat R (by unfold RD; rfl)
theorem Post.int {b : Int} (P : Post K g H S ρ σ (vD (.int b)) Q) (R : Rel K g H S ρ σ) : Q (.int b) H := P.dat R (by unfold RD; rfl)
theorem Post.tup {ds : List D} {vs : List V} {p : Addr} (P : Post K g H S ρ σ (vD (.tup ds)) Q) (R : Rel K g H S ρ σ) (h : RDs K g.fz H ds vs) (hn : H p = none) : Q (.ref p) (upd H p (.tup vs)) := by
  obtain ⟨X, R'⟩ := R.laid (o := .tup vs) hn
  refine P _ _ _ X R' ?_ fun xs e => nomatch e
  show RD K _ _ (.tup ds) (.ref p)
  unfold RD
  exact ⟨p, vs, rfl, .inl ⟨.inr rfl, .inl upd_same⟩, RDs.mono X.fz X.eq _ _ h⟩
theorem Post.own {xs : List Vl} {vs : List V} {p : Addr} (P : Post K g H S ρ σ (.own xs) Q) (R : Rel K g H S ρ σ) (h : RVs K g H xs vs) (hn : H p = none) : Q (.ref p) (upd H p (.lst vs)) := by
  obtain ⟨X, R'⟩ := R.laidO (o := .lst vs) hn
  obtain ⟨q1, q2⟩ := R.fresh_own hn h
  exact P _ _ _ X R' q1 fun _ _ => q2
theorem Post.ownD {ds : List D} {vs : List V} {p : Addr} (P : Post K g H S ρ σ (ownD ds) Q) (R : Rel K g H S ρ σ) (h : RDs K g.fz H ds vs) (hn : H p = none) : Q (.ref p) (upd H p (.lst vs)) := P.own R h.vs hn
end

theorem big_line {n : Nat} (h : n ≤ big) : n ≤ sizeLine := Nat.le_trans h (by decide)
theorem small_of {i : Int} (h : small i = true) : -(2 ^ 64) < i ∧ i < 2 ^ 64 := by
  unfold small at h
  simp only [Bool.and_eq_true, decide_eq_true_eq] at h
  exact h

theorem strOk_app {x y : Str} (h1 : PyData.strOk x = true) (h2 : PyData.strOk y = true) : PyData.strOk (x ++ y) = true := by
  unfold PyData.strOk at *
  show (x.cps ++ y.cps).all _ = true
  rw [Array.all_append, h1, h2]; rfl
theorem strOk_sub {x : Str} {l : List Nat} (h1 : PyData.strOk x = true) (h : ∀ c ∈ l, c ∈ x.cps.toList) : PyData.strOk ⟨l.toArray⟩ = true := by
  unfold PyData.strOk at *
  simp only [Array.all_eq_true', decide_eq_true_eq, List.mem_toArray] at *
  intro c hc
  exact h1 c (by simpa using h c hc)

section
variable {X : Cx} {g : Gh} {H : Hp} {S : Sto} {ρ : Env} {σ : St} {Q : VK} {x y : V} {r : Rv} {a b : D}

/-! + -/
def rAdd' (K : Frag) : R2 := fun x y H Q => rI0 (fun i j => .int (i + j)) x y H Q ∨ ((∃ i j, x = .str i ∧ y = .str j ∧ i.length + j.length ≤ sizeLine ∧ Q (.str (i ++ j)) H) ∨ (rCatA K x y H Q ∨ rCat x y H Q))
theorem o_add : OpR X (binaryOp .Add) (rAdd' X.K) := op_add.or (op_add_str.or (op_catA.or op_cat))
theorem p_add {K : Frag} (h : addD a b = some r) (R : Rel K g H S ρ σ) (ha : RO K g H (.d a) x) (hb : RO K g H (.d b) y) (P : Post K g H S ρ σ r Q) : rAdd' K x y H Q := by
  unfold addD at h
  split at h
  · cases h
    exact .inl ⟨_, _, ha.int, hb.int, P.int R⟩
  · split at h
    · cases h
      rename_i hl
      exact .inr (.inl ⟨_, _, ha.str.1, hb.str.1, big_line hl, P.dat R (by unfold RD; exact ⟨rfl, strOk_app ha.str.2 hb.str.2⟩)⟩)
    · cases h
  · split at h
    · cases h
      rename_i hl
      obtain ⟨p, vs, e1, t1, d1⟩ := ha.tup
      obtain ⟨q, ws, e2, t2, d2⟩ := hb.tup
      refine .inr (.inr (.inl ⟨p, q, vs, ws, e1, e2, t1.sq, t2.sq, by rw [d1.length, d2.length]; exact big_line hl, fun e => ?_, fun n e => ?_, fun n m z hz => ?_⟩))
      · refine P.dat R ?_
        subst e
        have := d1.length
        rename_i xs ys
        have hx : xs = [] := List.eq_nil_of_length_eq_zero (by simpa using this.symm)
        subst hx
        rw [List.nil_append]
        unfold RD
        exact ⟨q, ws, rfl, t2, d2⟩
      · refine P.dat R ?_
        subst e
        have := d2.length
        rename_i xs ys
        have hx : ys = [] := List.eq_nil_of_length_eq_zero (by simpa using this.symm)
        subst hx
        rw [List.append_nil]
        unfold RD
        exact ⟨p, vs, rfl, t1, d1⟩
      · exact P.tup R (RDs.app d2 d1) hz
    · cases h
  · split at h
    · cases h
      rename_i hl
      obtain ⟨p, vs, e1, t1, d1⟩ := ha.lst
      obtain ⟨q, ws, e2, t2, d2⟩ := hb.lst
      exact .inr (.inr (.inr ⟨p, q, vs, ws, e1, e2, t1, t2, by rw [d1.length, d2.length]; exact big_line hl, fun z hz => P.ownD R (RDs.app d2 d1) hz⟩))
    · cases h
  · cases h

/-! numbers -/
theorem p_sub {K : Frag} (h : subD a b = some r) (R : Rel K g H S ρ σ) (ha : RO K g H (.d a) x) (hb : RO K g H (.d b) y) (P : Post K g H S ρ σ r Q) : rI0 (fun i j => .int (i - j)) x y H Q := by
  unfold subD at h
  split at h
  · cases h
    exact ⟨_, _, ha.int, hb.int, P.int R⟩
  · cases h
def rMul' : R2 := fun x y H Q => rI CMul (fun i j => .int (i * j)) x y H Q ∨ rRep x y H Q
theorem o_mul : OpR X (binaryOp .Mult) rMul' := op_mul.or op_rep
theorem p_mul {K : Frag} (h : mulD a b = some r) (R : Rel K g H S ρ σ) (ha : RO K g H (.d a) x) (hb : RO K g H (.d b) y) (P : Post K g H S ρ σ r Q) : rMul' x y H Q := by
  unfold mulD at h
  split at h
  · split at h
    · cases h
      rename_i hc
      refine .inl ⟨_, _, ha.int, hb.int, ?_, P.int R⟩
      rcases Bool.or_eq_true_iff.mp hc with z | z
      · exact .inl (small_of z)
      · exact .inr (small_of z)
    · cases h
  · split at h
    · cases h
      rename_i hc
      simp only [Bool.and_eq_true, decide_eq_true_eq] at hc
      obtain ⟨⟨c1, c2⟩, c3⟩ := hc
      obtain ⟨p, vs, e1, t1, d1⟩ := ha.lst
      refine .inr ⟨p, _, vs, e1, hb.int, t1, by omega, by omega, by rw [d1.length]; exact big_line c3, fun z hz => P.ownD R (d1.rep _) hz⟩
    · cases h
  · cases h
theorem p_fdiv {K : Frag} (h : fdivD a b = some r) (R : Rel K g H S ρ σ) (ha : RO K g H (.d a) x) (hb : RO K g H (.d b) y) (P : Post K g H S ρ σ r Q) : rI CDivW (fun i j => .int (i / j)) x y H Q := by
  unfold fdivD at h
  split at h
  · split at h
    · cases h
      rename_i hc
      simp only [Bool.and_eq_true, decide_eq_true_eq] at hc
      refine ⟨_, _, ha.int, hb.int, wide_div (b := 64) hc.1 (by omega) (by decide) (by decide), P.int R⟩
    · cases h
  · cases h
theorem p_mod {K : Frag} (h : modD a b = some r) (R : Rel K g H S ρ σ) (ha : RO K g H (.d a) x) (hb : RO K g H (.d b) y) (P : Post K g H S ρ σ r Q) : rI (fun _ j => 0 < j) (fun i j => .int (i % j)) x y H Q := by
  unfold modD at h
  split at h
  · split at h
    · cases h
      rename_i hc
      exact ⟨_, _, ha.int, hb.int, of_decide_eq_true hc, P.int R⟩
    · cases h
  · cases h
theorem cpow_of {i j : Int} (hc : (decide (0 ≤ j) && decide (j ≤ 1000) && small i) = true) : CPow i j := by
  simp only [Bool.and_eq_true, decide_eq_true_eq] at hc
  have := small_of hc.2
  exact ⟨hc.1.1, by omega, by omega⟩
theorem p_pow {K : Frag} (h : powD a b = some r) (R : Rel K g H S ρ σ) (ha : RO K g H (.d a) x) (hb : RO K g H (.d b) y) (P : Post K g H S ρ σ r Q) : rI CPow (fun i j => .int (i ^ j.toNat)) x y H Q := by
  unfold powD at h
  split at h
  · split at h
    · cases h
      rename_i hc
      exact ⟨_, _, ha.int, hb.int, cpow_of hc, P.int R⟩
    · cases h
  · cases h
theorem p_shl {K : Frag} (h : shlD a b = some r) (R : Rel K g H S ρ σ) (ha : RO K g H (.d a) x) (hb : RO K g H (.d b) y) (P : Post K g H S ρ σ r Q) : rI CPow (fun i j => .int (i * 2 ^ j.toNat)) x y H Q := by
  unfold shlD at h
  split at h
  · split at h
    · cases h
      rename_i hc
      exact ⟨_, _, ha.int, hb.int, cpow_of hc, P.int R⟩
    · cases h
  · cases h
theorem p_lt {K : Frag} (h : ltD a b = some r) (R : Rel K g H S ρ σ) (ha : RO K g H (.d a) x) (hb : RO K g H (.d b) y) (P : Post K g H S ρ σ r Q) : rI0 (fun i j => .bl (decide (i < j))) x y H Q := by
  unfold ltD at h
  split at h
  · cases h
    exact ⟨_, _, ha.int, hb.int, P.bl R⟩
  · cases h
theorem p_le {K : Frag} (h : leD a b = some r) (R : Rel K g H S ρ σ) (ha : RO K g H (.d a) x) (hb : RO K g H (.d b) y) (P : Post K g H S ρ σ r Q) : rI0 (fun i j => .bl (decide (i ≤ j))) x y H Q := by
  unfold leD at h
  split at h
  · cases h
    exact ⟨_, _, ha.int, hb.int, P.bl R⟩
  · cases h
theorem p_gt {K : Frag} (h : gtD a b = some r) (R : Rel K g H S ρ σ) (ha : RO K g H (.d a) x) (hb : RO K g H (.d b) y) (P : Post K g H S ρ σ r Q) : rI0 (fun i j => .bl (decide (j < i))) x y H Q := by
  unfold gtD at h
  split at h
  · cases h
    exact ⟨_, _, ha.int, hb.int, P.bl R⟩
  · cases h
theorem p_ge {K : Frag} (h : geD a b = some r) (R : Rel K g H S ρ σ) (ha : RO K g H (.d a) x) (hb : RO K g H (.d b) y) (P : Post K g H S ρ σ r Q) : rI0 (fun i j => .bl (decide (j ≤ i))) x y H Q := by
  unfold geD at h
  split at h
  · cases h
    exact ⟨_, _, ha.int, hb.int, P.bl R⟩
  · cases h
theorem p_neg {K : Frag} (h : negD a = some r) (R : Rel K g H S ρ σ) (ha : RO K g H (.d a) x) (P : Post K g H S ρ σ r Q) : rU (fun i => .int (-i)) x H Q := by
  unfold negD at h
  split at h
  · cases h
    exact ⟨_, ha.int, P.int R⟩
  · cases h
end
end DL

end

section
set_option Elab.async false
set_option linter.all false
set_option autoImplicit false
set_option maxHeartbeats 1000000
/-! DL5: the primitive operations, on values, further. -/
namespace DL
open PySem L2

/-! ### == -/
mutual
def D.py : D → PyData
  | .non => .none
  | .bl b => .bool b
  | .int i => .int i
  | .str x => .str x
  | .tup xs => .tuple (D.pys xs)
  | .lst xs => .list (D.pys xs)
def D.pys : List D → List PyData
  | [] => []
  | x :: xs => D.py x :: D.pys xs
end
mutual
theorem py_eqv : ∀ a b : D, PyData.eqv a.py b.py = D.eqv a b
  | .non, b => by cases b <;> simp [D.py, PyData.eqv, D.eqv]
  | .bl _, b => by cases b <;> simp [D.py, PyData.eqv, D.eqv]
  | .int _, b => by cases b <;> simp [D.py, PyData.eqv, D.eqv]
  | .str _, b => by cases b <;> simp [D.py, PyData.eqv, D.eqv]
  | .tup xs, b => by
    cases b <;> simp only [D.py, PyData.eqv, D.eqv]
    exact py_eqvs xs _
  | .lst xs, b => by
    cases b <;> simp only [D.py, PyData.eqv, D.eqv]
    exact py_eqvs xs _
theorem py_eqvs : ∀ a b : List D, PyData.eqvAll (D.pys a) (D.pys b) = D.eqvs a b
  | [], [] => by simp [D.pys, PyData.eqvAll, D.eqvs]
  | [], _ :: _ => by simp [D.pys, PyData.eqvAll, D.eqvs]
  | _ :: _, [] => by simp [D.pys, PyData.eqvAll, D.eqvs]
  | x :: xs, y :: ys => by
    simp only [D.pys, PyData.eqvAll, D.eqvs]
    rw [py_eqv x y, py_eqvs xs ys]
end
mutual
theorem py_depth : ∀ (n : Nat) (d : D), D.deep n d = true → d.py.depth ≤ n
  | n, .non, _ => by simp [D.py, PyData.depth]
  | n, .bl _, _ => by simp [D.py, PyData.depth]
  | n, .int _, _ => by simp [D.py, PyData.depth]
  | n, .str _, _ => by simp [D.py, PyData.depth]
  | 0, .tup xs, h => by simp [D.deep] at h
  | n + 1, .tup xs, h => by
    simp only [D.deep] at h
    have := py_depths n xs h
    simp only [D.py, PyData.depth]
    omega
  | 0, .lst xs, h => by simp [D.deep] at h
  | n + 1, .lst xs, h => by
    simp only [D.deep] at h
    have := py_depths n xs h
    simp only [D.py, PyData.depth]
    omega
theorem py_depths : ∀ (n : Nat) (d : List D), D.deeps n d = true → PyData.depthAll (D.pys d) ≤ n
  | n, [], _ => by simp [D.pys, PyData.depthAll]
  | n, x :: xs, h => by
    simp only [D.deeps, Bool.and_eq_true] at h
    have h1 := py_depth n x h.1
    have h2 := py_depths n xs h.2
    simp only [D.pys, PyData.depthAll]
    omega
end
mutual
theorem RD.dp {K : Frag} {fz : Addr → Prop} {H : Hp} : ∀ (d : D) (v : V), RD K fz H d v → Dp K H v d.py ∧ d.py.canLay0 = true
  | .non, v, h => by unfold RD at h; subst h; exact ⟨.non, by simp [D.py, PyData.canLay0]⟩
  | .bl _, v, h => by unfold RD at h; subst h; exact ⟨.bl _, by simp [D.py, PyData.canLay0]⟩
  | .int _, v, h => by unfold RD at h; subst h; exact ⟨.int _, by simp [D.py, PyData.canLay0]⟩
  | .str x, v, h => by unfold RD at h; obtain ⟨rfl, h⟩ := h; exact ⟨.str _, by simp only [D.py, PyData.canLay0]; exact h⟩
  | .tup xs, v, h => by
    unfold RD at h
    obtain ⟨a, vs, rfl, t, q⟩ := h
    obtain ⟨h1, h2⟩ := RDs.dp xs vs q
    exact ⟨.tup t.sq h1, by simp only [D.py, PyData.canLay0]; exact h2⟩
  | .lst xs, v, h => by
    unfold RD at h
    obtain ⟨a, vs, rfl, t, q⟩ := h
    obtain ⟨h1, h2⟩ := RDs.dp xs vs q
    exact ⟨.lst t.sq h1, by simp only [D.py, PyData.canLay0]; exact h2⟩
theorem RDs.dp {K : Frag} {fz : Addr → Prop} {H : Hp} : ∀ (ds : List D) (vs : List V), RDs K fz H ds vs → DpAll K H vs (D.pys ds) ∧ PyData.canLayAll0 (D.pys ds) = true
  | [], vs, h => by unfold RDs at h; subst h; exact ⟨.nil, by simp [D.pys, PyData.canLayAll0]⟩
  | d :: ds, vs, h => by
    unfold RDs at h
    obtain ⟨v, r, rfl, h1, h2⟩ := h
    obtain ⟨a1, a2⟩ := RD.dp d v h1
    obtain ⟨b1, b2⟩ := RDs.dp ds r h2
    exact ⟨.cons a1 b1, by simp only [D.pys, PyData.canLayAll0, a2, b2, Bool.and_self]⟩
end
theorem RO.dp {K : Frag} {g : Gh} {H : Hp} {d : D} {v : V} (h : RO K g H (.d d) v) : Dp K H v d.py ∧ d.py.canLay0 = true := by
  cases d with
  | lst ds =>
    obtain ⟨a, vs, rfl, e, q⟩ := h.lst
    obtain ⟨h1, h2⟩ := RDs.dp ds vs q
    exact ⟨.lst (SqL.of e) h1, by simp only [D.py, PyData.canLay0]; exact h2⟩
  | _ => exact RD.dp (fz := g.fz) _ v h

section
variable {X : Cx} {g : Gh} {H : Hp} {S : Sto} {ρ : Env} {σ : St} {Q : VK} {x y : V} {r : Rv} {a b : D}
def rEqM (K : Frag) : R2 := fun x y H Q => ∃ d e, Dp K H x d ∧ Dp K H y e ∧ d.canLay0 = true ∧ e.canLay0 = true ∧ min d.depth e.depth ≤ 150 ∧ Q (.bl (PyData.eqv d e)) H
def rNeM (K : Frag) : R2 := fun x y H Q => ∃ d e, Dp K H x d ∧ Dp K H y e ∧ d.canLay0 = true ∧ e.canLay0 = true ∧ min d.depth e.depth ≤ 150 ∧ Q (.bl (!PyData.eqv d e)) H
theorem o_eq (hu : X.A.units + 200 < cLine) : OpR X (compareOp .Eq) (rEqM X.K) := by
  intro pins s σ H x y v u Q I rx ry h
  obtain ⟨d, e, hd, he, sd, se, hm, q⟩ := h
  obtain ⟨as, r1⟩ := Dp.reads I d x v hd rx
  obtain ⟨bs, r2⟩ := Dp.reads I e y u he ry
  exact SeqAt.compareEq_reads r1 r2 sd se (by omega) ⟨.bl _, H, I, rfl, q⟩
theorem o_ne (hu : X.A.units + 200 < cLine) : OpR X (compareOp .NotEq) (rNeM X.K) := by
  intro pins s σ H x y v u Q I rx ry h
  obtain ⟨d, e, hd, he, sd, se, hm, q⟩ := h
  obtain ⟨as, r1⟩ := Dp.reads I d x v hd rx
  obtain ⟨bs, r2⟩ := Dp.reads I e y u he ry
  exact SeqAt.compareNe_reads r1 r2 sd se (by omega) ⟨.bl _, H, I, rfl, q⟩
theorem eqD_min {c : Bool} (h : eqD a b = some c) : min a.py.depth b.py.depth ≤ 150 ∧ c = D.eqv a b := by
  unfold eqD at h
  split at h
  · cases h
    rename_i hc
    refine ⟨?_, rfl⟩
    rcases Bool.or_eq_true_iff.mp hc with z | z
    · have := py_depth 150 a z; omega
    · have := py_depth 150 b z; omega
  · cases h
theorem p_eq {K : Frag} (h : (eqD a b).map (fun c => vD (.bl c)) = some r) (R : Rel K g H S ρ σ) (ha : RO K g H (.d a) x) (hb : RO K g H (.d b) y) (P : Post K g H S ρ σ r Q) : rEqM K x y H Q := by
  cases q : eqD a b with
  | none => rw [q] at h; cases h
  | some c =>
    rw [q] at h; cases h
    obtain ⟨h1, h2⟩ := eqD_min q
    subst h2
    exact ⟨_, _, ha.dp.1, hb.dp.1, ha.dp.2, hb.dp.2, h1, by rw [py_eqv]; exact P.bl R⟩
theorem p_ne {K : Frag} (h : (eqD a b).map (fun c => vD (.bl (!c))) = some r) (R : Rel K g H S ρ σ) (ha : RO K g H (.d a) x) (hb : RO K g H (.d b) y) (P : Post K g H S ρ σ r Q) : rNeM K x y H Q := by
  cases q : eqD a b with
  | none => rw [q] at h; cases h
  | some c =>
    rw [q] at h; cases h
    obtain ⟨h1, h2⟩ := eqD_min q
    subst h2
    exact ⟨_, _, ha.dp.1, hb.dp.1, ha.dp.2, hb.dp.2, h1, by rw [py_eqv]; exact P.bl R⟩

/-! ### is None -/
theorem RO.isNon {K : Frag} (h : RO K g H (.d a) x) : decide (x = .non) = isNon a := by
  cases a with
  | non => rw [h.non]; rfl
  | bl b => rw [h.bl]; rfl
  | int i => rw [h.int]; rfl
  | str z => rw [h.str.1]; rfl
  | tup ds => obtain ⟨p, vs, rfl, _⟩ := h.tup; rfl
  | lst ds => obtain ⟨p, vs, rfl, _⟩ := h.lst; rfl

/-! ### items -/
theorem p_ix {K : Frag} (h : ixDD a b = some r) (R : Rel K g H S ρ σ) (ha : RO K g H (.d a) x) (hb : RO K g H (.d b) y) (P : Post K g H S ρ σ r Q) : rIx K x y H Q := by
  unfold ixDD at h
  split at h
  · rename_i xs i
    obtain ⟨p, vs, e, t, q⟩ := ha.tup
    cases hi : atI xs i with
    | none => rw [hi] at h; cases h
    | some d =>
      rw [hi] at h; cases h
      obtain ⟨v, q1, q2⟩ := q.atI hi
      exact .inr (.inl ⟨p, vs, i, v, e, hb.int, t.sq, q1, P.dat R q2⟩)
  · rename_i xs i
    obtain ⟨p, vs, e, t, q⟩ := ha.lst
    cases hi : atI xs i with
    | none => rw [hi] at h; cases h
    | some d =>
      rw [hi] at h; cases h
      obtain ⟨v, q1, q2⟩ := q.atI hi
      exact .inl ⟨p, vs, i, v, e, hb.int, SqL.of t, q1, P.dat R q2⟩
  · cases h
theorem RVs.atI {K : Frag} {us : List Vl} {vs : List V} {i : Int} {u : Vl} (h : RVs K g H us vs) (e : atI us i = some u) : ∃ v, L2.atI vs i = some v ∧ RV K g H u v := by
  unfold L2.atI at *
  rw [h.length]
  cases q : ixN us.length i with
  | none => rw [q] at e; cases e
  | some j =>
    rw [q] at e
    exact h.get e
theorem p_ixH {K : Frag} {n : Nat} {i : Int} {xs : List Vl} {u : Vl} (hs : S[n]? = some (.lst xs)) (hi : atI xs i = some u) (R : Rel K g H S ρ σ) (ha : RO K g H (.h n) x) (hb : RO K g H (.d (.int i)) y) (P : Post K g H S ρ σ (.v u) Q) : rIx K x y H Q := by
  obtain ⟨p, e1, e2⟩ := (show ∃ a, g.io[n]? = some a ∧ x = .ref a from ha)
  obtain ⟨⟨vs, h1, h2⟩, _⟩ := R.sto n p _ e1 hs
  obtain ⟨v, q1, q2⟩ := h2.atI hi
  exact .inl ⟨p, vs, i, v, e2, hb.int, SqL.of h1, q1, P.same R q2⟩

/-! ### slices -/
def rSl' (K : Frag) : V → Option Int → Option Int → Hp → VK → Prop := fun x lo hi H Q => rSlA K x lo hi H Q ∨ (rSlL K x lo hi H Q ∨ rSlS x lo hi H Q)
theorem o_sl : SlR X (rSl' X.K) := sl_tupA.or (sl_list.or sl_str)
theorem cut_str (z : Str) (lo hi : Option Int) : (⟨(cut z.cps.toList lo hi).toArray⟩ : Str) = cutS z lo hi := by
  unfold cut cutS
  have e : z.cps.toList.length = z.length := by rw [Array.length_toList]; rfl
  rw [e]
theorem cut_whole {ds : List D} {lo hi : Option Int} (h : HT.sIx ds.length 0 lo = 0 ∧ HT.sIx ds.length ds.length hi = ds.length) : cut ds lo hi = ds := by
  unfold cut
  rw [h.1, h.2]
  simp
theorem p_sl {K : Frag} {u : Vl} {lo hi : Option Int} (h : slice u lo hi = some r) (R : Rel K g H S ρ σ) (ha : RO K g H u x) (P : Post K g H S ρ σ r Q) : rSl' K x lo hi H Q := by
  cases u with
  | h n => cases h
  | scr ns =>
    unfold slice at h
    cases h
    obtain ⟨p, e, t⟩ := (show ∃ a, x = .ref a ∧ ScrAt K g.fz H a (ns.map .int) from ha)
    exact .inr (.inl ⟨p, _, e, t.sq, fun z hz => P.ownD R ((RDs.of_ints ns).cut lo hi) hz⟩)
  | d a =>
    have h : cutD a lo hi = some r := h
    unfold cutD at h
    split at h
    · cases h
      rename_i lo hi xs
      obtain ⟨p, vs, e, t, q⟩ := ha.tup
      refine .inl ⟨p, vs, e, t.sq, fun w => P.dat R ?_, fun _ z hz => P.tup R (q.cut _ _) hz⟩
      rw [cut_whole (by rw [← q.length]; exact w)]
      unfold RD
      exact ⟨p, vs, rfl, t, q⟩
    · cases h
      rename_i lo hi xs
      obtain ⟨p, vs, e, t, q⟩ := ha.lst
      exact .inr (.inl ⟨p, vs, e, SqL.of t, fun z hz => P.ownD R (q.cut _ _) hz⟩)
    · split at h
      · cases h
        rename_i lo hi z hl
        refine .inr (.inr ⟨z, ha.str.1, big_line hl, ?_⟩)
        rw [← cut_str]
        refine P.dat R ?_
        unfold RD
        refine ⟨rfl, strOk_sub ha.str.2 fun c hc => ?_⟩
        exact List.mem_of_mem_drop (List.mem_of_mem_take hc)
      · cases h
    · cases h

/-! ### calls of built-ins -/
theorem p_len {K : Frag} {u : Vl} {S' : Sto} (h : prim .len [u] S' = some r) (R : Rel K g H S ρ σ) (ha : RO K g H u x) (P : Post K g H S ρ σ r Q) : ∃ z n, [x] = [z] ∧ LenV K z H n ∧ Q (.int n) H := by
  unfold prim at h
  simp only at h
  cases u with
  | h n => simp at h
  | scr ns =>
    simp only [Option.some.injEq] at h
    subst h
    obtain ⟨p, e, t⟩ := (show ∃ a, x = .ref a ∧ ScrAt K g.fz H a (ns.map .int) from ha)
    subst e
    have q := P.int R
    exact ⟨_, _, rfl, .inl ⟨_, t.sq, rfl⟩, by rw [List.length_map]; exact q⟩
  | d a =>
    simp only at h
    unfold lenD at h
    split at h
    · cases h
      obtain ⟨p, vs, e, t, q⟩ := ha.tup
      subst e
      exact ⟨_, _, rfl, .inr ⟨vs, t.sq, rfl⟩, by rw [q.length]; exact P.int R⟩
    · cases h
      obtain ⟨p, vs, e, t, q⟩ := ha.lst
      subst e
      exact ⟨_, _, rfl, .inl ⟨vs, SqL.of t, rfl⟩, by rw [q.length]; exact P.int R⟩
    · split at h
      · cases h
        rename_i hl
        have e := ha.str.1
        subst e
        exact ⟨_, _, rfl, ⟨big_line hl, rfl⟩, P.int R⟩
      · cases h
    · cases h
theorem p_int {K : Frag} (h : intD a = some r) (R : Rel K g H S ρ σ) (ha : RO K g H (.d a) x) (P : Post K g H S ρ σ r Q) : (∃ i, [x] = [.int i] ∧ Q (.int i) H) ∨ ∃ k, [x] = [.bl k] ∧ Q (.int (if k then 1 else 0)) H := by
  unfold intD at h
  split at h
  · cases h
    have e := ha.int
    subst e
    exact .inl ⟨_, rfl, P.int R⟩
  · cases h
    have e := ha.bl
    subst e
    exact .inr ⟨_, rfl, P.int R⟩
  · cases h
theorem p_tuple {K : Frag} (h : tupleD a = some r) (R : Rel K g H S ρ σ) (ha : RO K g H (.d a) x) (P : Post K g H S ρ σ r Q) :
    ∃ p ys, [x] = [.ref p] ∧ ((SqL K H p ys ∧ ∀ l, H l = none → Q (.ref l) (upd H l (.tup ys))) ∨ (SqT K H p ys ∧ Q (.ref p) H)) := by
  unfold tupleD at h
  split at h
  · cases h
    rename_i xs
    obtain ⟨p, vs, e, t, q⟩ := ha.tup
    subst e
    exact ⟨p, vs, rfl, .inr ⟨t.sq, P.dat R (by unfold RD; exact ⟨p, vs, rfl, t, q⟩)⟩⟩
  · cases h
    obtain ⟨p, vs, e, t, q⟩ := ha.lst
    subst e
    exact ⟨p, vs, rfl, .inl ⟨SqL.of t, fun l hl => P.tup R q hl⟩⟩
  · cases h
theorem p_list {K : Frag} (h : listD a = some r) (R : Rel K g H S ρ σ) (ha : RO K g H (.d a) x) (P : Post K g H S ρ σ r Q) :
    ∃ p ys, [x] = [.ref p] ∧ (SqL K H p ys ∨ SqT K H p ys) ∧ ∀ l, H l = none → Q (.ref l) (upd H l (.lst ys)) := by
  unfold listD at h
  split at h
  · cases h
    obtain ⟨p, vs, e, t, q⟩ := ha.tup
    subst e
    exact ⟨p, vs, rfl, .inr t.sq, fun l hl => P.ownD R q hl⟩
  · cases h
    obtain ⟨p, vs, e, t, q⟩ := ha.lst
    subst e
    exact ⟨p, vs, rfl, .inl (SqL.of t), fun l hl => P.ownD R q hl⟩
  · cases h
theorem p_all {K : Frag} (h : allD a = some r) (R : Rel K g H S ρ σ) (ha : RO K g H (.d a) x) (P : Post K g H S ρ σ r Q) : rAll K [x] H Q := by
  unfold allD at h
  split at h
  · rename_i xs
    obtain ⟨p, vs, e, t, q⟩ := ha.lst
    subst e
    cases hb : bools xs with
    | none => rw [hb] at h; cases h
    | some bs =>
      rw [hb] at h; cases h
      have e := q.bools hb
      subst e
      exact ⟨p, bs, rfl, SqL.of t, P.bl R⟩
  · cases h

/-! ### isinstance -/
def Ty.nm : Ty → String
  | .tuple => "tuple"
  | .bool => "bool"
  | .int => "int"
  | .str => "str"
  | .list => "list"
theorem kit_non (t : Ty) : kitB "NoneType" t.nm = some (isTy t .non) := by cases t <;> decide +kernel
theorem kit_bl (t : Ty) : kitB "bool" t.nm = some (isTy t (.bl true)) := by cases t <;> decide +kernel
theorem kit_int (t : Ty) : kitB "int" t.nm = some (isTy t (.int 0)) := by cases t <;> decide +kernel
theorem kit_str (t : Ty) : kitB "str" t.nm = some (isTy t (.str ⟨#[]⟩)) := by cases t <;> decide +kernel
theorem kit_tup (t : Ty) : kitB "tuple" t.nm = some (isTy t (.tup [])) := by cases t <;> decide +kernel
theorem kit_lst (t : Ty) : kitB "list" t.nm = some (isTy t (.lst [])) := by cases t <;> decide +kernel
theorem RO.ty {K : Frag} {t : Ty} (h : RO K g H (.d a) x) : ∃ tv, TyX K H x tv ∧ PySem.W.kitOne K tv (.type t.nm) = some (isTy t a) := by
  cases a with
  | non => rw [h.non]; exact ⟨_, .base .non, kit_ty (kit_non t)⟩
  | bl b => rw [h.bl]; exact ⟨_, .base (.bl b), kit_ty ((kit_bl t).trans (by cases t <;> rfl))⟩
  | int i => rw [h.int]; exact ⟨_, .base (.int i), kit_ty ((kit_int t).trans (by cases t <;> rfl))⟩
  | str z => rw [h.str.1]; exact ⟨_, .base (.str z), kit_ty ((kit_str t).trans (by cases t <;> rfl))⟩
  | tup ds =>
    obtain ⟨p, vs, rfl, w, q⟩ := h.tup
    refine ⟨.type "tuple", ?_, kit_ty ((kit_tup t).trans (by cases t <;> rfl))⟩
    rcases w with ⟨_, w | ⟨o, w⟩⟩ | ⟨o, its, n, e1, e2, _⟩
    · exact .base (.tup w)
    · exact .fTuple w
    · exact .kTuple e1 e2
  | lst ds =>
    obtain ⟨p, vs, rfl, w, q⟩ := h.lst
    exact ⟨.type "list", .base (.lst w), kit_ty ((kit_lst t).trans (by cases t <;> rfl))⟩
theorem p_isi {K : Frag} {t : Ty} (R : Rel K g H S ρ σ) (ha : RO K g H (.d a) x) (P : Post K g H S ρ σ (vD (.bl (isTy t a))) Q) : rIsi K [x, .ty t.nm] H Q := by
  obtain ⟨tv, h1, h2⟩ := ha.ty (t := t)
  exact ⟨x, _, tv, _, _, rfl, .ty _, h1, h2, P.bl R⟩
end
end DL

end

section
set_option Elab.async false
set_option linter.all false
set_option autoImplicit false
set_option maxHeartbeats 1000000
/-! DL6: what the model's run does, read off the evaluator. -/
namespace DL
open PySem L2

theorem imE {X : Cx} {e : Expr} {t t' : TE} (h : PE X e t) (i : ∀ σ H Q, t' σ H Q → t σ H Q) : PE X e t' := ⟨fun pins s σ H Q I q => h.run pins s σ H Q I (i σ H Q q)⟩
theorem imT {X : Cx} {e : Expr} {t t' : TT} (h : PT X e t) (i : ∀ σ H Q, t' σ H Q → t σ H Q) : PT X e t' := ⟨fun pins s σ H Q I q => h.run pins s σ H Q I (i σ H Q q)⟩
theorem imW {X : Cx} {e : Expr} {t t' : TT} (h : PW X e t) (i : ∀ σ H Q, t' σ H Q → t σ H Q) : PW X e t' := ⟨fun w pins s σ H Q I q => h.run w pins s σ H Q I (i σ H Q q)⟩
theorem imA {X : Cx} {e : List Expr} {t t' : TA} (h : PA X e t) (i : ∀ σ H Q, t' σ H Q → t σ H Q) : PA X e t' := ⟨fun p pins s σ H Q I q => h.run p pins s σ H Q I (i σ H Q q)⟩
theorem imI {X : Cx} {tg e : Expr} {t t' : TI} (h : PI X tg e t) (i : ∀ σ H Q, t' σ H Q → t σ H Q) : PI X tg e t' := ⟨fun pins s σ H Q I q => h.run pins s σ H Q I (i σ H Q q)⟩
theorem imS {X : Cx} {e : Stmt} {t t' : TS} (h : PS X e t) (i : ∀ D σ H, t' D σ H → t D σ H) : PS X e t' := ⟨fun pins s σ H D I q => h.run pins s σ H D I (i D σ H q)⟩
theorem imSs {X : Cx} {e : List Stmt} {t t' : TS} (h : PSs X e t) (i : ∀ D σ H, t' D σ H → t D σ H) : PSs X e t' := ⟨fun pins s σ H D I q => h.run pins s σ H D I (i D σ H q)⟩
theorem imTs {X : Cx} {e : List Expr} {t t' : TT} (h : PTs X e t) (i : ∀ σ H Q, t' σ H Q → t σ H Q) : PTs X e t' := ⟨fun pins s σ H Q I q => h.run pins s σ H Q I (i σ H Q q)⟩

def RR (K : Frag) (g : Gh) (H : Hp) (ρ : Env) (σ : St) (r : Rv) (v : V) : Prop := SlotOk K g H r v ∧ ∀ xs, r = Rv.own xs → Apart ρ σ v
def TEv (K : Frag) (m : Env → Sto → R Rv) : TE := fun σ H Q => ∃ g ρ S r ρ' S', Rel K g H S ρ σ ∧ m ρ S = .ok r ρ' S' ∧ ∀ g' H' v, Ext g H g' H' → Rel K g' H' S' ρ' σ → RR K g' H' ρ' σ r v → Q v H'
def TVl (K : Frag) (m : Env → Sto → R Vl) : TE := fun σ H Q => ∃ g ρ S u ρ' S', Rel K g H S ρ σ ∧ m ρ S = .ok u ρ' S' ∧ ∀ g' H' v, Ext g H g' H' → Rel K g' H' S' ρ' σ → RV K g' H' u v → Q v H'
def TLv (K : Frag) (m : Env → Sto → R (List Vl)) : TA := fun σ H Q => ∃ g ρ S us ρ' S', Rel K g H S ρ σ ∧ m ρ S = .ok us ρ' S' ∧ ∀ g' H' vs, Ext g H g' H' → Rel K g' H' S' ρ' σ → RVs K g' H' us vs → Q vs H'
def TTv (K : Frag) (m : Env → Sto → R Rv) : TT := fun σ H Q => ∃ g ρ S b ρ' S', Rel K g H S ρ σ ∧ m ρ S = .ok (vD (.bl b)) ρ' S' ∧ ∀ g' H', Ext g H g' H' → Rel K g' H' S' ρ' σ → Q b H'

theorem bindEq {α β : Type} {m : R α} {f : α → Env → Sto → R β} {b : β} {ρ : Env} {S : Sto} (h : m.bind f = .ok b ρ S) : ∃ a ρ1 S1, m = .ok a ρ1 S1 ∧ f a ρ1 S1 = .ok b ρ S := by
  cases m with
  | ok a ρ1 S1 => exact ⟨a, ρ1, S1, rfl, h⟩
  | no => cases h
theorem lift_eq {α : Type} {o : Option α} {a : α} {ρ ρ' : Env} {S S' : Sto} (h : lift o ρ S = .ok a ρ' S') : o = some a ∧ ρ' = ρ ∧ S' = S := by
  cases o with
  | none => cases h
  | some b => cases h; exact ⟨rfl, rfl, rfl⟩
theorem fzR_eq {m : R Rv} {u : Vl} {ρ : Env} {S : Sto} (h : fzR m = .ok u ρ S) : ∃ r, m = .ok r ρ S ∧ r.fz = some u := by
  obtain ⟨r, ρ1, S1, h1, h2⟩ := bindEq h
  obtain ⟨h3, rfl, rfl⟩ := lift_eq h2
  exact ⟨r, h1, h3⟩
theorem Rv.fz_own {xs : List Vl} {u : Vl} (h : (Rv.own xs).fz = some u) : ∃ ds, datas xs = some ds ∧ u = .d (.lst ds) := by
  have h : (match datas xs with | some ds => some (Vl.d (.lst ds)) | none => none) = some u := h
  cases q : datas xs with
  | none => rw [q] at h; cases h
  | some ds => rw [q] at h; cases h; exact ⟨ds, rfl, rfl⟩

section
variable {K : Frag} {g : Gh} {H : Hp} {S : Sto} {ρ : Env} {σ : St}
/-- a result is held to stay -/
theorem Rel.hold {r : Rv} {u : Vl} {v : V} (R : Rel K g H S ρ σ) (h : RR K g H ρ σ r v) (e : r.fz = some u) : ∃ g', Ext g H g' H ∧ Rel K g' H S ρ σ ∧ RV K g' H u v := by
  cases r with
  | v x => cases e; exact ⟨g, Ext.refl _ _, R, h.1⟩
  | own xs =>
    obtain ⟨ds, h1, rfl⟩ := Rv.fz_own e
    obtain ⟨⟨a, vs, rfl, h2, h3, h4, h5, h6⟩, ap⟩ := h
    obtain ⟨X, R'⟩ := R.freeze h2 h5 h6 (ap xs rfl)
    refine ⟨_, X, R', ?_⟩
    show RD K _ H (.lst ds) (.ref a)
    unfold RD
    exact ⟨a, vs, rfl, ⟨.inr rfl, h2⟩, RDs.mono X.fz X.eq _ _ (RVs.datas h1 h3)⟩
end
theorem fz_pe {X : Cx} {e : Expr} {K : Frag} {m : Env → Sto → R Rv} (h : PE X e (TEv K m)) : PE X e (TVl K fun ρ S => fzR (m ρ S)) := by
  refine imE h fun σ H Q ⟨g, ρ, S, u, ρ', S', R, e1, q⟩ => ?_
  obtain ⟨r, h1, h2⟩ := fzR_eq e1
  refine ⟨g, ρ, S, r, ρ', S', R, h1, fun g' H' v X' R' rr => ?_⟩
  obtain ⟨g2, X2, R2, h3⟩ := R'.hold rr h2
  exact q g2 H' v (X'.trans X2) R2 h3

def notStar : Expr → Bool
  | .Starred _ _ => false
  | _ => true
theorem star_ok {e : Expr} {es : List Expr} {env : PySem.Env} (h : notStar e = true) : starEach (e :: es) env = (false, eval e env) :: starEach es env := by
  cases e <;> first | rfl | cases h
def allNotStar (es : List Expr) : Bool := es.all notStar
theorem noStars {env : PySem.Env} {pos : Pos} : ∀ {es : List Expr}, allNotStar es = true → (backTo pos (starEach es env)).any (·.1) = false
  | [], _ => rfl
  | e :: es, h => by
    unfold allNotStar at h
    simp only [List.all_cons, Bool.and_eq_true] at h
    rw [star_ok h.1]
    exact noStars (env := env) (pos := pos) (es := es) h.2

theorem pa_nilv {X : Cx} {K : Frag} : PA X [] (TLv K fun ρ S => .ok [] ρ S) := by
  refine imA pa_nil fun σ H Q ⟨g, ρ, S, us, ρ', S', R, e1, q⟩ => ?_
  cases e1
  exact q g H [] (Ext.refl _ _) R rfl
theorem pa_consv {X : Cx} {K : Frag} {e : Expr} {es : List Expr} {m1 : Env → Sto → R Vl} {m2 : Env → Sto → R (List Vl)} (h1 : PE X e (TVl K m1)) (h2 : PA X es (TLv K m2)) (hs : notStar e = true) :
    PA X (e :: es) (TLv K fun ρ S => (m1 ρ S).bind fun v ρ1 S1 => (m2 ρ1 S1).bind fun vs ρ2 S2 => .ok (v :: vs) ρ2 S2) := by
  refine imA (pa_cons h1 h2 (star_ok hs)) fun σ H Q ⟨g, ρ, S, us, ρ', S', R, e1, q⟩ => ?_
  obtain ⟨v, ρ1, S1, e2, e3⟩ := bindEq e1
  obtain ⟨vs, ρ2, S2, e4, e5⟩ := bindEq e3
  cases e5
  refine ⟨g, ρ, S, v, ρ1, S1, R, e2, fun g1 H1 x X1 R1 r1 => ?_⟩
  refine ⟨g1, ρ1, S1, vs, _, _, R1, e4, fun g2 H2 xs X2 R2 r2 => ?_⟩
  exact q g2 H2 (x :: xs) (X1.trans X2) R2 ⟨x, xs, rfl, r1.mono X2, r2⟩

/-! ### operands -/
def chn : List TE → TA
  | [] => tNil
  | t :: ts => tCons t (chn ts)
inductive PEs (X : Cx) : List Expr → List TE → Prop
  | nil : PEs X [] []
  | cons {e : Expr} {es : List Expr} {t : TE} {ts : List TE} : PE X e t → PEs X es ts → PEs X (e :: es) (t :: ts)
/-- the operands' readings, one behind another -/
def Chn (K : Frag) (m : Env → Sto → R (List Vl)) (ts : List TE) : Prop :=
  ∀ (σ : St) (H : Hp) (Q : List V → Hp → Prop) (g : Gh) (ρ : Env) (S : Sto) (us : List Vl) (ρ' : Env) (S' : Sto), Rel K g H S ρ σ → m ρ S = .ok us ρ' S' →
    (∀ g' H' vs, Ext g H g' H' → Rel K g' H' S' ρ' σ → ROs K g' H' us vs → Q vs H') → chn ts σ H Q
theorem chn_nil {K : Frag} : Chn K (fun ρ S => .ok [] ρ S) [] := fun σ H Q g ρ S us ρ' S' R e q => by
  cases e
  exact q g H [] (Ext.refl _ _) R rfl
theorem chn_e {K : Frag} {m1 : Env → Sto → R Vl} {m2 : Env → Sto → R (List Vl)} {ts : List TE} (h : Chn K m2 ts) : Chn K (fun ρ S => (m1 ρ S).bind fun v ρ1 S1 => (m2 ρ1 S1).bind fun vs ρ2 S2 => .ok (v :: vs) ρ2 S2) (TVl K m1 :: ts) := fun σ H Q g ρ S us ρ' S' R e q => by
  obtain ⟨v, ρ1, S1, e2, e3⟩ := bindEq e
  obtain ⟨vs, ρ2, S2, e4, e5⟩ := bindEq e3
  cases e5
  refine ⟨g, ρ, S, v, ρ1, S1, R, e2, fun g1 H1 x X1 R1 r1 => ?_⟩
  refine h σ H1 _ g1 ρ1 S1 vs _ _ R1 e4 fun g2 H2 xs X2 R2 r2 => ?_
  exact q g2 H2 (x :: xs) (X1.trans X2) R2 ⟨x, xs, rfl, (r1.mono X2).ro, r2⟩
theorem Rel.peek {K : Frag} {g : Gh} {H : Hp} {S : Sto} {ρ : Env} {σ : St} {i : Nat} {u : Vl} (R : Rel K g H S ρ σ) (h : peek ρ i = some u) : ∃ v, σ[i]? = some (some v) ∧ RO K g H u v := by
  unfold DL.peek at h
  split at h
  · rename_i r e
    obtain ⟨v, h1, h2⟩ := R.slot i r e
    refine ⟨v, h1, ?_⟩
    cases r with
    | v x => cases h; exact RV.ro h2
    | own xs =>
      obtain ⟨ds, q1, rfl⟩ := Rv.fz_own h
      obtain ⟨a, vs, rfl, q2, q3, _⟩ := h2
      exact ⟨a, vs, rfl, q2, RVs.datas q1 q3⟩
  · cases h
theorem chn_pk {K : Frag} {i : Nat} {m2 : Env → Sto → R (List Vl)} {ts : List TE} (h : Chn K m2 ts) : Chn K (fun ρ S => match ρ[i]? with
    | some (some _) => (m2 ρ S).bind fun vs ρ1 S1 => match peek ρ1 i with
      | some v => .ok (v :: vs) ρ1 S1
      | none => .no
    | _ => .no) (tVar i :: ts) := fun σ H Q g ρ S us ρ' S' R e q => by
  have e : (match ρ[i]? with
    | some (some _) => (m2 ρ S).bind fun vs ρ1 S1 => match peek ρ1 i with
      | some v => DL.R.ok (v :: vs) ρ1 S1
      | none => .no
    | _ => .no) = DL.R.ok us ρ' S' := e
  split at e
  · rename_i r er
    obtain ⟨vs, ρ1, S1, e1, e2⟩ := bindEq e
    cases hp : DL.peek ρ1 i with
    | none => rw [hp] at e2; cases e2
    | some u =>
      rw [hp] at e2; cases e2
      obtain ⟨v, h1, _⟩ := R.slot i r er
      refine ⟨v, h1, ?_⟩
      refine h σ H _ g ρ S vs _ _ R e1 fun g2 H2 xs X2 R2 r2 => ?_
      obtain ⟨v', h3, h4⟩ := R2.peek hp
      rw [h1] at h3
      have h3 := Option.some.inj (Option.some.inj h3)
      subst h3
      exact q g2 H2 (v :: xs) X2 R2 ⟨v, xs, rfl, h4, r2⟩
  · cases e

/-! ### operations -/
theorem Post.of {K : Frag} {g g1 : Gh} {H H1 : Hp} {S : Sto} {ρ : Env} {σ : St} {r : Rv} {Q : VK} (X1 : Ext g H g1 H1) (q : ∀ g' H' v, Ext g H g' H' → Rel K g' H' S ρ σ → RR K g' H' ρ σ r v → Q v H') : Post K g1 H1 S ρ σ r Q :=
  fun g' H' v X2 R2 h ap => q g' H' v (X1.trans X2) R2 ⟨h, ap⟩
/-- from operands to the whole: rd is the operation's reading -/
theorem op_im {K : Frag} {o : Op} {mA : Env → Sto → R (List Vl)} {ts : List TE} {rd : List V → Hp → VK → Prop} (hc : Chn K mA ts)
    (hv : ∀ σ g H S ρ us vs r Q, prim o us S = some r → Rel K g H S ρ σ → ROs K g H us vs → Post K g H S ρ σ r Q → rd vs H Q) :
    ∀ σ H Q, TEv K (fun ρ S => (mA ρ S).bind fun vs ρ1 S1 => lift (prim o vs S1) ρ1 S1) σ H Q → chn ts σ H fun vs H1 => rd vs H1 Q := fun σ H Q ⟨g, ρ, S, r, ρ', S', R, e, q⟩ => by
  obtain ⟨us, ρ1, S1, e1, e2⟩ := bindEq e
  obtain ⟨e3, rfl, rfl⟩ := lift_eq e2
  exact hc σ H _ g ρ S us _ _ R e1 fun g' H' vs X' R' ro => hv σ g' H' _ _ us vs r Q e3 R' ro (Post.of X' q)
def rd1 (r : V → Hp → VK → Prop) : List V → Hp → VK → Prop
  | [x], H, Q => r x H Q
  | _, _, _ => False
def rd2 (r : R2) : List V → Hp → VK → Prop
  | [x, y], H, Q => r x y H Q
  | _, _, _ => False
section
variable {K : Frag} {o : Op} {f : D → D → Option Rv} {f1 : D → Option Rv}
theorem bin_v {r2 : R2} (ho : ∀ us S, prim o us S = bin f us)
    (hp : ∀ {σ g H S ρ a b x y r Q}, f a b = some r → Rel K g H S ρ σ → RO K g H (.d a) x → RO K g H (.d b) y → Post K g H S ρ σ r Q → r2 x y H Q) :
    ∀ σ g H S ρ us vs r Q, prim o us S = some r → Rel K g H S ρ σ → ROs K g H us vs → Post K g H S ρ σ r Q → rd2 r2 vs H Q := fun σ g H S ρ us vs r Q e R ro P => by
  rw [ho] at e
  unfold bin at e
  split at e
  · obtain ⟨x, t, rfl, h1, y, t2, rfl, h2, h3⟩ := ro
    have h3 : t2 = [] := h3
    subst h3
    exact hp e R h1 h2 P
  · cases e
theorem un_v {r1 : V → Hp → VK → Prop} (ho : ∀ us S, prim o us S = un f1 us)
    (hp : ∀ {σ g H S ρ a x r Q}, f1 a = some r → Rel K g H S ρ σ → RO K g H (.d a) x → Post K g H S ρ σ r Q → r1 x H Q) :
    ∀ σ g H S ρ us vs r Q, prim o us S = some r → Rel K g H S ρ σ → ROs K g H us vs → Post K g H S ρ σ r Q → rd1 r1 vs H Q := fun σ g H S ρ us vs r Q e R ro P => by
  rw [ho] at e
  unfold un at e
  split at e
  · obtain ⟨x, t, rfl, h1, h3⟩ := ro
    have h3 : t = [] := h3
    subst h3
    exact hp e R h1 P
  · cases e
end

/-! ### tests -/
theorem tt_im {K : Frag} {m : Env → Sto → R Rv} {t : TE} (h : ∀ σ H Q, TEv K m σ H Q → t σ H Q) : ∀ σ H Q, TTv K m σ H Q → tTest t σ H Q := fun σ H Q ⟨g, ρ, S, b, ρ', S', R, e, q⟩ => by
  refine h σ H _ ⟨g, ρ, S, _, ρ', S', R, e, fun g' H' v X' R' rr => ?_⟩
  have r1 : RD K g'.fz H' (.bl b) v := rr.1
  unfold RD at r1
  exact ⟨b, r1, q g' H' X' R'⟩
theorem pt_of {X : Cx} {e : Expr} {K : Frag} {m : Env → Sto → R Rv} (h : PE X e (TEv K m)) (he : ∀ whole, isTrue e X.env whole = (do let v ← whole; standAt e.pos; holding [v] (truthy v))) : PT X e (TTv K m) :=
  imT (pt_val h he) (tt_im fun _ _ _ h => h)
end DL

end

section
set_option Elab.async false
set_option linter.all false
set_option autoImplicit false
set_option maxHeartbeats 1000000
/-! DL7: targets, what is walked, comprehensions. -/
namespace DL
open PySem L2

/-! ### what a def's text is held against -/
structure Cc where
  N : List Str
  sc : Scope
  fn : Str → Bool
  nm : Nat → Option Str
structure Fits (c : Cc) (X : Cx) : Prop where
  N : X.N = c.N
  sc : X.env.scope = c.sc
  fn : X.fn = c.fn
  nd : X.N.Nodup
  calm : X.calm = true
def isLocal (sc : Scope) (x : Str) : Bool := match sc.names.lookup x with
  | some .local => true
  | _ => false
def isCell (sc : Scope) (x : Str) : Bool := match sc.names.lookup x with
  | some .cell => true
  | _ => false
def isFree (sc : Scope) (x : Str) : Bool := match sc.names.lookup x with
  | some .free => true
  | _ => false
def isGlob (sc : Scope) (x : Str) : Bool := match sc.names.lookup x with
  | some .globalImplicit => true
  | _ => false
theorem isLocal_eq {sc : Scope} {x : Str} (h : isLocal sc x = true) : sc.names.lookup x = some .local := by
  unfold isLocal at h
  split at h
  · assumption
  · cases h
theorem isCell_eq {sc : Scope} {x : Str} (h : isCell sc x = true) : sc.names.lookup x = some .cell := by
  unfold isCell at h
  split at h
  · assumption
  · cases h
theorem isFree_eq {sc : Scope} {x : Str} (h : isFree sc x = true) : sc.names.lookup x = some .free := by
  unfold isFree at h
  split at h
  · assumption
  · cases h
theorem isGlob_eq {sc : Scope} {x : Str} (h : isGlob sc x = true) : sc.names.lookup x = some .globalImplicit := by
  unfold isGlob at h
  split at h
  · assumption
  · cases h
def okNm (x : Str) : Bool := !(x == ("__debug__" : Str)) && !(x == ("__classdict__" : Str))
/-- a name that is read -/
def chkV (c : Cc) (i : Nat) (x : Str) : Bool := decide (c.N[i]? = some x) && (isLocal c.sc x || isCell c.sc x || isFree c.sc x) && okNm x
/-- a name that is stored -/
def chkW (c : Cc) (i : Nat) (x : Str) : Bool := decide (c.N[i]? = some x) && (isLocal c.sc x || (isCell c.sc x && c.fn x))
mutual
def chkT (c : Cc) : TG → Expr → Bool
  | .nm i, .Name x _ => chkW c i x
  | .tp ts, .Tuple es _ _ => chkTs c ts es
  | _, _ => false
def chkTs (c : Cc) : TGL → List Expr → Bool
  | .nil, [] => true
  | .cons t ts, e :: es => chkT c t e && notStar e && chkTs c ts es
  | _, _ => false
end
theorem chkW_ok {c : Cc} {X : Cx} {i : Nat} {x : Str} (F : Fits c X) (h : chkW c i x = true) : X.N[i]? = some x ∧ Loc X.env.scope x ∧ (X.fn x = true ∨ X.env.scope.names.lookup x = some .local) := by
  unfold chkW at h
  simp only [Bool.and_eq_true, decide_eq_true_eq, Bool.or_eq_true] at h
  rw [F.N, F.sc, F.fn]
  refine ⟨h.1, ?_, ?_⟩
  · rcases h.2 with z | z
    · exact .inl (isLocal_eq z)
    · exact .inr (isCell_eq z.1)
  · rcases h.2 with z | z
    · exact .inr (isLocal_eq z)
    · exact .inl z.2

mutual
def slots : TG → List Nat
  | .nm i => [i]
  | .tp ts => slotsL ts
def slotsL : TGL → List Nat
  | .nil => []
  | .cons t ts => slots t ++ slotsL ts
end
def Agree (is : List Nat) (σ σ' : St) : Prop := σ'.length = σ.length ∧ ∀ i, i ∉ is → σ'[i]? = σ[i]?
theorem Agree.refl (is : List Nat) (σ : St) : Agree is σ σ := ⟨rfl, fun _ _ => rfl⟩
theorem Agree.trans {is js : List Nat} {σ σ1 σ2 : St} (a : Agree is σ σ1) (b : Agree js σ1 σ2) : Agree (is ++ js) σ σ2 :=
  ⟨b.1.trans a.1, fun i h => by
    simp only [List.mem_append, not_or] at h
    exact (b.2 i h.2).trans (a.2 i h.1)⟩
theorem Agree.set (σ : St) (i : Nat) (v : Option V) : Agree [i] σ (σ.set i v) :=
  ⟨by simp, fun j h => by
    simp only [List.mem_singleton] at h
    rw [List.getElem?_set_ne (Ne.symm h)]⟩
def TGv (K : Frag) (tg : TG) : L2.TG := fun v σ H Q => ∃ g ρ S u ρ', Rel K g H S ρ σ ∧ RV K g H u v ∧ bindT tg u S ρ = some ρ' ∧ ∀ σ', Rel K g H S ρ' σ' → Agree (slots tg) σ σ' → Q σ' H
def TGsv (K : Frag) (ts : TGL) : L2.TGs := fun vs σ H Q => ∃ g ρ S us ρ', Rel K g H S ρ σ ∧ RVs K g H us vs ∧ bindTs ts us S ρ = some ρ' ∧ ∀ σ', Rel K g H S ρ' σ' → Agree (slotsL ts) σ σ' → Q σ' H
theorem imG {X : Cx} {e : Expr} {t t' : L2.TG} (h : PG X e t) (i : ∀ v σ H Q, t' v σ H Q → t v σ H Q) : PG X e t' := ⟨fun pins s σ H v u Q I r q => h.run pins s σ H v u Q I r (i v σ H Q q)⟩
theorem imGs {X : Cx} {e : List Expr} {t t' : L2.TGs} (h : PGs X e t) (i : ∀ v σ H Q, t' v σ H Q → t v σ H Q) : PGs X e t' := ⟨fun pins s σ H v u Q I r q => h.run pins s σ H v u Q I r (i v σ H Q q)⟩
theorem orG {X : Cx} {e : Expr} {t t' : L2.TG} (h : PG X e t) (h' : PG X e t') : PG X e (fun v σ H Q => t v σ H Q ∨ t' v σ H Q) :=
  ⟨fun pins s σ H v u Q I r q => q.elim (h.run pins s σ H v u Q I r) (h'.run pins s σ H v u Q I r)⟩
theorem each_ok {e : Expr} {es : List Expr} {env : PySem.Env} (h : notStar e = true) : (assignEach (e :: es) env).map (·.2) = assign e env :: (assignEach es env).map (·.2) := by
  cases e <;> first | rfl | cases h
theorem each_cons {e : Expr} {es : List Expr} {env : PySem.Env} (h : notStar e = true) : assignEach (e :: es) env = (false, assign e env) :: assignEach es env := by
  cases e <;> first | rfl | cases h
theorem chkTs_star {c : Cc} {env : PySem.Env} : ∀ {ts : TGL} {es : List Expr}, chkTs c ts es = true → (assignEach es env).length = es.length ∧ (assignEach es env).findIdx? (·.1) = none
  | .nil, [], _ => ⟨rfl, rfl⟩
  | .nil, _ :: _, h => by simp [chkTs] at h
  | .cons t ts, [], h => by simp [chkTs] at h
  | .cons t ts, e :: es, h => by
    simp only [chkTs, Bool.and_eq_true] at h
    obtain ⟨h1, h2⟩ := chkTs_star (env := env) h.2
    rw [each_cons h.1.2]
    refine ⟨by simp [h1], ?_⟩
    rw [List.findIdx?_cons]
    simp [h2]
theorem bindTs_len : ∀ {ts : TGL} {us : List Vl} {S : Sto} {ρ ρ' : Env} {c : Cc} {es : List Expr}, bindTs ts us S ρ = some ρ' → chkTs c ts es = true → us.length = es.length
  | .nil, [], _, _, _, _, [], _, _ => rfl
  | .nil, [], _, _, _, _, _ :: _, _, h => by simp [chkTs] at h
  | .nil, _ :: _, _, _, _, _, _, h, _ => by simp [bindTs] at h
  | .cons t ts, [], _, _, _, _, _, h, _ => by simp [bindTs] at h
  | .cons t ts, u :: us, S, ρ, ρ', c, [], _, h => by simp [chkTs] at h
  | .cons t ts, u :: us, S, ρ, ρ', c, e :: es, h, h2 => by
    simp only [chkTs, Bool.and_eq_true] at h2
    simp only [bindTs] at h
    split at h
    · simp [bindTs_len h h2.2]
    · cases h
mutual
theorem soundT {c : Cc} {X : Cx} (F : Fits c X) : ∀ (tg : TG) (e : Expr), chkT c tg e = true → PG X e (TGv X.K tg)
  | .nm i, e, h => by
    cases e <;> first | (simp only [chkT] at h; done) | (simp [chkT] at h; done) | skip
    rename_i x pos
    simp only [chkT] at h
    obtain ⟨h1, h2, h3⟩ := chkW_ok F h
    refine imG (pg_name F.nd h1 h2 h3) fun v σ H Q ⟨g, ρ, S, u, ρ', R, rv, e, q⟩ => ?_
    simp only [bindT, Option.some.injEq] at e
    subst e
    exact q _ (R.set rv) (Agree.set σ i _)
  | .tp ts, e, h => by
    cases e <;> first | (simp [chkT] at h; done) | skip
    rename_i es k pos
    simp only [chkT] at h
    obtain ⟨h1, h2⟩ := chkTs_star (env := X.env) h
    have P := soundTs F ts es h
    refine imG (orG (pg_tup F.calm P h1 h2) (pg_unl F.calm P h1 h2)) fun v σ H Q ⟨g, ρ, S, u, ρ', R, rv, e, q⟩ => ?_
    cases u with
    | scr ns => simp [bindT] at e
    | h n =>
      simp only [bindT] at e
      obtain ⟨a, e1, e2⟩ := rv
      subst e2
      split at e
      · rename_i xs hs
        obtain ⟨⟨vs, h3, h4⟩, _⟩ := R.sto n a _ e1 hs
        exact .inr ⟨a, vs, rfl, SqL.of h3, by rw [h4.length, bindTs_len e h], g, ρ, S, xs, ρ', R, h4, e, q⟩
      · cases e
    | d x =>
      cases x with
      | tup xs =>
        simp only [bindT] at e
        have rv : RD X.K g.fz H (.tup xs) v := rv
        unfold RD at rv
        obtain ⟨a, vs, rfl, t, r⟩ := rv
        have r' := r.vs (g := g)
        exact .inl ⟨a, vs, rfl, t.sq, by rw [r'.length, bindTs_len e h], g, ρ, S, _, ρ', R, r', e, q⟩
      | _ => simp [bindT] at e
theorem soundTs {c : Cc} {X : Cx} (F : Fits c X) : ∀ (ts : TGL) (es : List Expr), chkTs c ts es = true → PGs X es (TGsv X.K ts)
  | .nil, es, h => by
    cases es with
    | cons e es => simp [chkTs] at h
    | nil =>
      refine imGs pgs_nil fun vs σ H Q ⟨g, ρ, S, us, ρ', R, rv, e, q⟩ => ?_
      cases us with
      | cons u us => simp [bindTs] at e
      | nil =>
        simp only [bindTs, Option.some.injEq] at e
        subst e
        exact ⟨rv, q σ R (Agree.refl _ _)⟩
  | .cons t ts, es, h => by
    cases es with
    | nil => simp [chkTs] at h
    | cons e es =>
      simp only [chkTs, Bool.and_eq_true] at h
      refine imGs (pgs_cons (soundT F t e h.1.1) (soundTs F ts es h.2) (each_ok h.1.2)) fun vs σ H Q ⟨g, ρ, S, us, ρ', R, rv, e', q⟩ => ?_
      cases us with
      | nil => simp [bindTs] at e'
      | cons u us =>
        simp only [bindTs] at e'
        split at e'
        · rename_i ρ1 e1
          obtain ⟨v, r, rfl, r1, r2⟩ := rv
          refine ⟨v, r, rfl, g, ρ, S, u, ρ1, R, r1, e1, fun σ1 R1 A1 => ?_⟩
          exact ⟨g, ρ1, S, us, ρ', R1, r2, e', fun σ2 R2 A2 => q σ2 R2 (A1.trans A2)⟩
        · cases e'
end
end DL

end

section
set_option Elab.async false
set_option linter.all false
set_option autoImplicit false
set_option maxHeartbeats 1000000
/-! DL8: what is walked; comprehensions. -/
namespace DL
open PySem L2

structure Ex (g : Gh) (H : Hp) (g' : Gh) (H' : Hp) : Prop where
  fz : ∀ b, g.fz b → g'.fz b
  eq : ∀ b, g.fz b → H' b = H b
  io : g.io <+: g'.io
theorem Ext.ex {g g' : Gh} {H H' : Hp} (x : Ext g H g' H') : Ex g H g' H' := ⟨x.fz, x.eq, x.io⟩
theorem Ex.refl (g : Gh) (H : Hp) : Ex g H g H := (Ext.refl g H).ex
theorem Ex.trans {g g1 g2 : Gh} {H H1 H2 : Hp} (a : Ex g H g1 H1) (b : Ex g1 H1 g2 H2) : Ex g H g2 H2 :=
  ⟨fun c h => b.fz c (a.fz c h), fun c h => (b.eq c (a.fz c h)).trans (a.eq c h), a.io.trans b.io⟩
def Gh.with (g : Gh) (P : Addr → HO → Prop) : Gh := { g with Pr := P }
theorem Ex.ext {g g' : Gh} {H H' : Hp} (x : Ex g H g' H') : Ext g H (g'.with g.Pr) H' := ⟨rfl, x.fz, x.eq, x.io⟩
theorem RV.monoE {K : Frag} {g g' : Gh} {H H' : Hp} (x : Ex g H g' H') {u : Vl} {v : V} (h : RV K g H u v) : RV K g' H' u v := by
  have q := RV.mono (K := K) x.ext h
  cases u <;> exact q
theorem RVs.monoE {K : Frag} {g g' : Gh} {H H' : Hp} (x : Ex g H g' H') : ∀ {us : List Vl} {vs : List V}, RVs K g H us vs → RVs K g' H' us vs
  | [], vs, h => h
  | u :: us, vs, h => by
    obtain ⟨v, r, e, t, q⟩ := h
    exact ⟨v, r, e, t.monoE x, RVs.monoE x q⟩

structure Wk (K : Frag) (g0 : Gh) (H0 : Hp) (J : It) (xs : List Vl) : Prop where
  go : ∀ (i : Nat) (g : Gh) (H : Hp) (S : Sto) (ρ : Env) (σ : St), i < xs.length → Ex g0 H0 g H → Rel K g H S ρ σ → J.go i H
  yld : ∀ (i : Nat) (g : Gh) (H : Hp) (S : Sto) (ρ : Env) (σ : St) (x : V) (H' : Hp) (u : Vl), xs[i]? = some u → Ex g0 H0 g H → Rel K g H S ρ σ → J.yld i H x H' → ∃ g', Ext g H g' H' ∧ Rel K g' H' S ρ σ ∧ RV K g' H' u x
  stop : ∀ (g : Gh) (H : Hp) (S : Sto) (ρ : Env) (σ : St), Ex g0 H0 g H → Rel K g H S ρ σ → J.stop xs.length H
def TIv (K : Frag) (m : Env → Sto → DL.R (List Vl)) : TI := fun σ H R => ∃ g ρ S xs ρ' S', Rel K g H S ρ σ ∧ m ρ S = .ok xs ρ' S' ∧ ∀ g' H' J, Ext g H g' H' → Rel K g' H' S' ρ' σ → Wk K g' H' J xs → R J H'

section
variable {K : Frag} {g : Gh} {H : Hp}
theorem wk_list {a : Addr} {vs : List V} {ds : List D} (h : LstAt g.fz H a vs) (r : RDs K g.fz H ds vs) : Wk K g H (Itl K a) (ds.map .d) := by
  have st : ∀ {g' : Gh} {H' : Hp}, Ex g H g' H' → H' a = some (.lst vs) := fun x => (x.eq a h.1).trans h.2
  have l : (ds.map Vl.d).length = vs.length := by rw [r.length, List.length_map]
  refine ⟨fun i g' H' S ρ σ hi X R => ?_, fun i g' H' S ρ σ x H2 u e X R y => ?_, fun g' H' S ρ σ X R => ?_⟩
  · exact ⟨vs, vs[i]'(by omega), SqL.of (st X), by rw [List.getElem?_eq_getElem]⟩
  · obtain ⟨e1, y⟩ := y
    subst e1
    obtain ⟨v, q1, q2⟩ := (r.vs (g := g)).get e
    have q3 := y vs (SqL.of (st X))
    rw [q1] at q3; cases q3
    exact ⟨g', Ext.refl _ _, R, q2.monoE X⟩
  · exact ⟨vs, SqL.of (st X), by rw [l]; exact Nat.le_refl _⟩
theorem wk_tup {a : Addr} {vs : List V} {ds : List D} (h : TupAt K g.fz H a vs) (r : RDs K g.fz H ds vs) : Wk K g H (Itt K a) (ds.map .d) := by
  have st : ∀ {g' : Gh} {H' : Hp}, Ex g H g' H' → SqT K H' a vs := fun x => (h.mono x.fz x.eq).sq
  have l : (ds.map Vl.d).length = vs.length := by rw [r.length, List.length_map]
  refine ⟨fun i g' H' S ρ σ hi X R => ?_, fun i g' H' S ρ σ x H2 u e X R y => ?_, fun g' H' S ρ σ X R => ?_⟩
  · exact ⟨vs, vs[i]'(by omega), st X, by rw [List.getElem?_eq_getElem]⟩
  · obtain ⟨e1, y⟩ := y
    subst e1
    obtain ⟨v, q1, q2⟩ := (r.vs (g := g)).get e
    have q3 := y vs (st X)
    rw [q1] at q3; cases q3
    exact ⟨g', Ext.refl _ _, R, q2.monoE X⟩
  · exact ⟨vs, st X, by rw [l]; exact Nat.le_refl _⟩
theorem wk_range (n : Nat) : Wk K g H (Itr 0 n) (nats n) := by
  have l : (nats n).length = n := by unfold nats; simp
  refine ⟨fun i g' H' S ρ σ hi X R => ?_, fun i g' H' S ρ σ x H2 u e X R y => ?_, fun g' H' S ρ σ X R => ?_⟩
  · show i < n; omega
  · obtain ⟨e1, y⟩ := y
    subst e1 y
    have hi : i < n := by have := (List.getElem?_eq_some_iff.mp e).1; omega
    unfold nats at e
    rw [List.getElem?_map, List.getElem?_range hi] at e
    cases e
    exact ⟨g', Ext.refl _ _, R, by show RD K _ _ _ _; unfold RD; simp⟩
  · show n ≤ (nats n).length; omega
end

/-- a list or a tuple, walked -/
theorem pi_seq {X : Cx} {tg l : Expr} {tl : TE} (hl : PE X l tl) : PI X tg l (fun σ H R => tl σ H fun x H1 => ∃ a, x = .ref a ∧ ((∃ xs, SqL X.K H1 a xs ∧ R (Itl X.K a) H1) ∨ (∃ xs, SqT X.K H1 a xs ∧ R (Itt X.K a) H1))) := by
  refine ⟨fun pins s σ H R I h => ?_⟩
  refine thn (hl.run pins s σ H _ I h) fun v s1 ⟨x, H1, I1, r1, q1⟩ => ?_
  obtain ⟨a, e, q1⟩ := q1
  subst e
  cases r1
  have fp : ∀ b ∈ [s1.heap.objs.size], FpOk X pins H1 b := fun b hb => by
    have e : b = s1.heap.objs.size := by simpa using hb
    subst e
    exact I1.fpOk (Nat.le_refl _) (I1.hok.fresh (Nat.le_refl _))
  rcases q1 with ⟨xs, hq, q⟩ | ⟨xs, hq, q⟩
  · obtain ⟨its, rv, p, hz⟩ := I1.list hq
    refine wpAny_pyIter_list p.isList ?_
    exact ⟨s1.heap.objs.size, [s1.heap.objs.size], _, _, H1, rfl, I1.kept (t' := s1.toks) fun b o e => Heap.get?_push_of_some _ e, turn_list a _, ⟨_, Heap.get?_push_size _ rfl, rfl, rfl⟩, fp, q⟩
  · obtain ⟨its, rv, p, hz⟩ := I1.tuple hq
    refine wpAny_pyIter_tuple (show s1.heap.IsTuple a its.toArray from p) ?_
    exact ⟨s1.heap.objs.size, [s1.heap.objs.size], _, _, H1, rfl, I1.kept (t' := s1.toks) fun b o e => Heap.get?_push_of_some _ e, turn_tuple a _, ⟨_, Heap.get?_push_size _ rfl, rfl, rfl⟩, fp, q⟩

/-- what is walked, as the evaluator has it -/
theorem pi_seqv {X : Cx} {tg l : Expr} {m : Env → Sto → DL.R Vl} (h : PE X l (TVl X.K m)) : PI X tg l (TIv X.K fun ρ S => (m ρ S).bind fun v ρ1 S1 => lift (items v S1) ρ1 S1) := by
  refine imI (pi_seq h) fun σ H R ⟨g, ρ, S, xs, ρ', S', Rl, e, q⟩ => ?_
  obtain ⟨u, ρ1, S1, e1, e2⟩ := bindEq e
  obtain ⟨e3, rfl, rfl⟩ := lift_eq e2
  refine ⟨g, ρ, S, u, _, _, Rl, e1, fun g' H' v X' R' rv => ?_⟩
  cases u with
  | h n => cases e3
  | scr ns => cases e3
  | d x =>
    cases x with
    | tup ds =>
      cases e3
      have rv : RD X.K g'.fz H' (.tup ds) v := rv
      unfold RD at rv
      obtain ⟨a, vs, rfl, t, r⟩ := rv
      exact ⟨a, rfl, .inr ⟨vs, t.sq, q g' H' _ X' R' (wk_tup t r)⟩⟩
    | lst ds =>
      cases e3
      have rv : RD X.K g'.fz H' (.lst ds) v := rv
      unfold RD at rv
      obtain ⟨a, vs, rfl, t, r⟩ := rv
      exact ⟨a, rfl, .inl ⟨vs, t.sq, q g' H' _ X' R' (wk_list t r)⟩⟩
    | _ => cases e3
theorem pi_rngv {X : Cx} {tg a : Expr} {p pos : Pos} {m : Env → Sto → DL.R Vl} (hg : Gl X "range") (hm : X.mg "range" = none) (hs : notStar a = true) (h : PE X a (TVl X.K m)) :
    PI X tg (.Call (.Name "range" p) [a] [] pos) (TIv X.K fun ρ S => (m ρ S).bind fun v ρ1 S1 => match v with
      | .d (.int n) => if decide (-1000000 ≤ n) && decide (n ≤ 1000000) then .ok (nats n.toNat) ρ1 S1 else .no
      | _ => .no) := by
  have hp : PA X [a] (tCons (TVl X.K m) tNil) := pa_cons h pa_nil (star_ok hs)
  refine imI (pi_range1 hg hm hp (star_ok hs)) fun σ H R ⟨g, ρ, S, xs, ρ', S', Rl, e, q⟩ => ?_
  obtain ⟨u, ρ1, S1, e1, e2⟩ := bindEq e
  refine ⟨g, ρ, S, u, _, _, Rl, e1, fun g' H' v X' R' rv => ?_⟩
  split at e2
  · rename_i n
    split at e2
    · rename_i hc
      simp only [Bool.and_eq_true, decide_eq_true_eq] at hc
      cases e2
      have rv : RD X.K g'.fz H' (.int n) v := rv
      unfold RD at rv
      subst rv
      exact ⟨n, rfl, by omega, by omega, q g' H' _ X' R' (wk_range _)⟩
    · cases e2
  · cases e2

theorem zip_get : ∀ {xs ys : List D} {i : Nat} {u : Vl}, (zipT xs ys)[i]? = some u → ∃ x y, xs[i]? = some x ∧ ys[i]? = some y ∧ u = .d (.tup [x, y])
  | [], ys, i, u, h => by simp [zipT] at h
  | x :: xs, [], i, u, h => by simp [zipT] at h
  | x :: xs, y :: ys, 0, u, h => by simp [zipT] at h; exact ⟨x, y, rfl, rfl, h.symm⟩
  | x :: xs, y :: ys, i + 1, u, h => by
    simp only [zipT, List.getElem?_cons_succ] at h
    obtain ⟨a, b, h1, h2, h3⟩ := zip_get h
    exact ⟨a, b, by simpa using h1, by simpa using h2, h3⟩
theorem zip_len : ∀ (xs ys : List D), (zipT xs ys).length = min xs.length ys.length
  | [], ys => by simp [zipT]
  | x :: xs, [] => by simp [zipT]
  | x :: xs, y :: ys => by simp [zipT, zip_len xs ys]
section
variable {K : Frag} {g : Gh} {H : Hp} {a b : Addr} {vs ws : List V} {ds es : List D}
theorem wk_zipL (h : LstAt g.fz H a vs) (r : RDs K g.fz H ds vs) (h' : LstAt g.fz H b ws) (r' : RDs K g.fz H es ws) : Wk K g H (Itz K a b) (zipT ds es) := by
  have st : ∀ {g' : Gh} {H' : Hp}, Ex g H g' H' → SqL K H' a vs := fun x => SqL.of ((x.eq a h.1).trans h.2)
  have st' : ∀ {g' : Gh} {H' : Hp}, Ex g H g' H' → SqL K H' b ws := fun x => SqL.of ((x.eq b h'.1).trans h'.2)
  have l1 := r.length
  have l2 := r'.length
  have l := zip_len ds es
  refine ⟨fun i g' H' S ρ σ hi X R => ?_, fun i g' H' S ρ σ x H2 u e X R y => ?_, fun g' H' S ρ σ X R => ?_⟩
  · exact ⟨vs, ws, vs[i]'(by omega), ws[i]'(by omega), st X, st' X, by rw [List.getElem?_eq_getElem], by rw [List.getElem?_eq_getElem]⟩
  · obtain ⟨d1, d2, e1, e2, rfl⟩ := zip_get e
    obtain ⟨T, p, q, rfl, hT, rfl, y1, y2⟩ := y
    obtain ⟨v1, q1, q2⟩ := r.get e1
    obtain ⟨v2, q3, q4⟩ := r'.get e2
    have z1 := y1 vs (st X)
    have z2 := y2 ws (st' X)
    rw [q1] at z1; cases z1
    rw [q3] at z2; cases z2
    obtain ⟨X2, R2⟩ := R.laid (o := .tup [_, _]) hT
    refine ⟨_, X2, R2, ?_⟩
    show RD K _ _ (.tup [d1, d2]) (.ref T)
    unfold RD
    refine ⟨T, _, rfl, .inl ⟨.inr rfl, .inl upd_same⟩, RDs.cons ?_ (RDs.cons ?_ RDs.nil)⟩
    · exact RD.mono X2.fz X2.eq _ _ (RD.mono X.fz X.eq _ _ q2)
    · exact RD.mono X2.fz X2.eq _ _ (RD.mono X.fz X.eq _ _ q4)
  · exact ⟨vs, ws, st X, st' X, by omega⟩
theorem wk_zipT (h : TupAt K g.fz H a vs) (r : RDs K g.fz H ds vs) (h' : TupAt K g.fz H b ws) (r' : RDs K g.fz H es ws) : Wk K g H (RZ.ItzT K a b) (zipT ds es) := by
  have st : ∀ {g' : Gh} {H' : Hp}, Ex g H g' H' → SqT K H' a vs := fun x => (h.mono x.fz x.eq).sq
  have st' : ∀ {g' : Gh} {H' : Hp}, Ex g H g' H' → SqT K H' b ws := fun x => (h'.mono x.fz x.eq).sq
  have l1 := r.length
  have l2 := r'.length
  have l := zip_len ds es
  refine ⟨fun i g' H' S ρ σ hi X R => ?_, fun i g' H' S ρ σ x H2 u e X R y => ?_, fun g' H' S ρ σ X R => ?_⟩
  · exact ⟨vs, ws, vs[i]'(by omega), ws[i]'(by omega), st X, st' X, by rw [List.getElem?_eq_getElem], by rw [List.getElem?_eq_getElem]⟩
  · obtain ⟨d1, d2, e1, e2, rfl⟩ := zip_get e
    obtain ⟨T, p, q, rfl, hT, rfl, y1, y2⟩ := y
    obtain ⟨v1, q1, q2⟩ := r.get e1
    obtain ⟨v2, q3, q4⟩ := r'.get e2
    have z1 := y1 vs (st X)
    have z2 := y2 ws (st' X)
    rw [q1] at z1; cases z1
    rw [q3] at z2; cases z2
    obtain ⟨X2, R2⟩ := R.laid (o := .tup [_, _]) hT
    refine ⟨_, X2, R2, ?_⟩
    show RD K _ _ (.tup [d1, d2]) (.ref T)
    unfold RD
    refine ⟨T, _, rfl, .inl ⟨.inr rfl, .inl upd_same⟩, RDs.cons ?_ (RDs.cons ?_ RDs.nil)⟩
    · exact RD.mono X2.fz X2.eq _ _ (RD.mono X.fz X.eq _ _ q2)
    · exact RD.mono X2.fz X2.eq _ _ (RD.mono X.fz X.eq _ _ q4)
  · exact ⟨vs, ws, st X, st' X, by omega⟩
end
theorem pi_zipv {X : Cx} {x y : Expr} {elts : List Expr} {kk : Nat} {tpos p pos : Pos} {m1 m2 : Env → Sto → DL.R Vl} (hg : Gl X "zip") (hm : X.mg "zip" = none) (h1 : PE X x (TVl X.K m1)) (h2 : PE X y (TVl X.K m2)) (s1 : notStar x = true) (s2 : notStar y = true) :
    PI X (.Tuple elts kk tpos) (.Call (.Name "zip" p) [x, y] [] pos) (TIv X.K fun ρ S => (m1 ρ S).bind fun v ρ1 S1 => (m2 ρ1 S1).bind fun w ρ2 S2 => lift (zipI v w) ρ2 S2) := by
  have hp : PA X [x, y] (tCons (TVl X.K m1) (tCons (TVl X.K m2) tNil)) := pa_cons h1 (pa_cons h2 pa_nil (star_ok s2)) (star_ok s1)
  refine imI (RZ.pi_zipA hg hm hp (star_ok s1) (noStars (by simp [allNotStar, s2]))) fun σ H R ⟨g, ρ, S, xs, ρ', S', Rl, e, q⟩ => ?_
  obtain ⟨u, ρ1, S1, e1, e2⟩ := bindEq e
  obtain ⟨w, ρ2, S2, e3, e4⟩ := bindEq e2
  obtain ⟨e5, rfl, rfl⟩ := lift_eq e4
  refine ⟨g, ρ, S, u, _, _, Rl, e1, fun g1 H1 v X1 R1 rv => ?_⟩
  refine ⟨g1, _, _, w, _, _, R1, e3, fun g2 H2 v2 X2 R2 rw' => ?_⟩
  have rv := RV.mono X2 rv
  unfold zipI at e5
  split at e5
  · cases e5
    have rv : RD X.K g2.fz H2 (.tup _) v := rv
    have rw' : RD X.K g2.fz H2 (.tup _) v2 := rw'
    unfold RD at rv rw'
    obtain ⟨a, vs, rfl, t, r⟩ := rv
    obtain ⟨b, ws, rfl, t', r'⟩ := rw'
    exact ⟨a, b, vs, ws, rfl, .inr ⟨t.sq, t'.sq, q g2 H2 _ (X1.trans X2) R2 (wk_zipT t r t' r')⟩⟩
  · cases e5
    have rv : RD X.K g2.fz H2 (.lst _) v := rv
    have rw' : RD X.K g2.fz H2 (.lst _) v2 := rw'
    unfold RD at rv rw'
    obtain ⟨a, vs, rfl, t, r⟩ := rv
    obtain ⟨b, ws, rfl, t', r'⟩ := rw'
    exact ⟨a, b, vs, ws, rfl, .inl ⟨t.sq, t'.sq, q g2 H2 _ (X1.trans X2) R2 (wk_zipL t r t' r')⟩⟩
  · cases e5
end DL

end

section
set_option Elab.async false
set_option linter.all false
set_option autoImplicit false
set_option maxHeartbeats 1000000
/-! DL9: comprehensions, loops. -/
namespace DL
open PySem L2

theorem wipe_len (ρ : Env) : ∀ is : List Nat, (wipe ρ is).length = ρ.length
  | [] => rfl
  | i :: is => by unfold wipe; rw [List.length_set, wipe_len ρ is]
theorem wipe_in {ρ : Env} {j : Nat} {r : Rv} : ∀ {is : List Nat}, (wipe ρ is)[j]? = some (some r) → ρ[j]? = some (some r) ∧ j ∉ is
  | [], h => ⟨h, by simp⟩
  | i :: is, h => by
    unfold wipe at h
    by_cases hj : i = j
    · subst hj
      by_cases hl : i < (wipe ρ is).length
      · rw [List.getElem?_set_self hl] at h; cases h
      · rw [List.getElem?_eq_none (by simpa using hl)] at h; cases h
    · rw [List.getElem?_set_ne hj] at h
      obtain ⟨h1, h2⟩ := wipe_in h
      exact ⟨h1, by simp only [List.mem_cons, not_or]; exact ⟨fun e => hj e.symm, h2⟩⟩
theorem wipe_other {ρ : Env} {j : Nat} : ∀ {is : List Nat}, j ∉ is → (wipe ρ is)[j]? = ρ[j]?
  | [], _ => rfl
  | i :: is, h => by
    simp only [List.mem_cons, not_or] at h
    unfold wipe
    rw [List.getElem?_set_ne (Ne.symm h.1)]
    exact wipe_other h.2
theorem unwipe_len (ρ0 ρ : Env) : ∀ is : List Nat, (unwipe ρ0 ρ is).length = ρ.length
  | [] => rfl
  | i :: is => by
    unfold unwipe
    split
    · rw [List.length_set, unwipe_len ρ0 ρ is]
    · exact unwipe_len ρ0 ρ is
theorem unwipe_in {ρ0 ρ : Env} {j : Nat} (hl : ρ.length = ρ0.length) : ∀ {is : List Nat}, j ∈ is → (unwipe ρ0 ρ is)[j]? = ρ0[j]?
  | [], h => by simp at h
  | i :: is, h => by
    unfold unwipe
    by_cases hj : i = j
    · subst hj
      split
      · rename_i x e
        have : i < (unwipe ρ0 ρ is).length := by rw [unwipe_len, hl]; exact (List.getElem?_eq_some_iff.mp e).1
        rw [List.getElem?_set_self this, e]
      · rename_i e
        have : ρ0.length ≤ i := List.getElem?_eq_none_iff.mp e
        rw [e]
        exact List.getElem?_eq_none (by rw [unwipe_len, hl]; exact this)
    · have h : j ∈ is := by
        rcases List.mem_cons.mp h with z | z
        · exact absurd z.symm hj
        · exact z
      split
      · rw [List.getElem?_set_ne hj]; exact unwipe_in hl h
      · exact unwipe_in hl h
theorem unwipe_out {ρ0 ρ : Env} {j : Nat} : ∀ {is : List Nat}, j ∉ is → (unwipe ρ0 ρ is)[j]? = ρ[j]?
  | [], _ => rfl
  | i :: is, h => by
    simp only [List.mem_cons, not_or] at h
    unfold unwipe
    split
    · rw [List.getElem?_set_ne (Ne.symm h.1)]; exact unwipe_out h.2
    · exact unwipe_out h.2
theorem noOwn_at {ρ : Env} {is : List Nat} {j : Nat} {xs : List Vl} (h : noOwn ρ is = true) (hj : j ∈ is) : ρ[j]? ≠ some (some (.own xs)) := fun e => by
  unfold noOwn at h
  have := List.all_eq_true.mp h j hj
  rw [e] at this
  cases this

section
variable {K : Frag} {g g1 : Gh} {H H1 : Hp} {S S1 : Sto} {ρ ρ1 : Env} {σ : St} {is : List Nat}
/-- fewer slots are known -/
theorem Rel.less {ρ' : Env} {σ' : St} (R : Rel K g H S ρ σ) (hl : ρ'.length = σ'.length) (h : ∀ (j : Nat) (r : Rv), ρ'[j]? = some (some r) → ρ[j]? = some (some r) ∧ σ'[j]? = σ[j]?) : Rel K g H S ρ' σ' := by
  refine ⟨hl, fun j r e => ?_, fun i j xs ys v hij e1 e2 e3 => ?_, R.iol, R.ion, R.sto, R.fzt, R.prt⟩
  · obtain ⟨h1, h2⟩ := h j r e
    obtain ⟨v, q1, q2⟩ := R.slot j r h1
    exact ⟨v, h2.trans q1, q2⟩
  · obtain ⟨a1, a2⟩ := h i _ e1
    obtain ⟨b1, b2⟩ := h j _ e2
    rw [a2] at e3
    rw [b2]
    exact R.inj i j xs ys v hij a1 b1 e3
theorem Rel.wipe (R : Rel K g H S ρ σ) (is : List Nat) : Rel K g H S (DL.wipe ρ is) (L2.wipe σ is) := by
  refine R.less (by rw [wipe_len, L2.wipe_length, R.len]) fun j r e => ?_
  obtain ⟨h1, h2⟩ := wipe_in e
  exact ⟨h1, L2.wipe_out h2⟩
theorem Rel.unwipe (R : Rel K g H S (DL.wipe ρ is) (L2.wipe σ is)) (R1 : Rel K g1 H1 S1 ρ1 σ) (x : Ex g1 H1 g H) (hn : noOwn ρ1 is = true) : Rel K g H S (DL.unwipe ρ1 ρ is) σ := by
  have l : ρ.length = ρ1.length := by
    have h1 := R.len
    have h2 := R1.len
    rw [wipe_len, L2.wipe_length] at h1
    omega
  have own : ∀ {j : Nat} {xs : List Vl}, (DL.unwipe ρ1 ρ is)[j]? = some (some (.own xs)) → j ∉ is ∧ ρ[j]? = some (some (.own xs)) := fun {j xs} e => by
    by_cases hj : j ∈ is
    · rw [unwipe_in l hj] at e
      exact absurd e (noOwn_at hn hj)
    · rw [unwipe_out hj] at e
      exact ⟨hj, e⟩
  refine ⟨by rw [unwipe_len, l]; exact R1.len, fun j r e => ?_, fun i j xs ys v hij e1 e2 e3 => ?_, R.iol, R.ion, R.sto, R.fzt, R.prt⟩
  · by_cases hj : j ∈ is
    · rw [unwipe_in l hj] at e
      obtain ⟨v, q1, q2⟩ := R1.slot j r e
      refine ⟨v, q1, ?_⟩
      cases r with
      | v u => exact RV.monoE x q2
      | own xs => exact absurd e (noOwn_at hn hj)
    · rw [unwipe_out hj] at e
      obtain ⟨v, q1, q2⟩ := R.slot j r (by rw [wipe_other hj]; exact e)
      exact ⟨v, by rw [L2.wipe_out hj] at q1; exact q1, q2⟩
  · obtain ⟨a1, a2⟩ := own e1
    obtain ⟨b1, b2⟩ := own e2
    have := R.inj i j xs ys v hij (by rw [wipe_other a1]; exact a2) (by rw [wipe_other b1]; exact b2) (by rw [L2.wipe_out a1]; exact e3)
    rw [L2.wipe_out b1] at this
    exact this
/-- the objects of others, and one more -/
def plus (P : Addr → HO → Prop) (D : Addr) (o : HO) : Addr → HO → Prop := fun b u => P b u ∨ (b = D ∧ u = o)
theorem OwnAt.with {P : Addr → HO → Prop} {xs : List Vl} {v : V} (h : OwnAt K g H xs v) (hp : ∀ a, v = .ref a → ∀ o, ¬ P a o) : OwnAt K (g.with P) H xs v := by
  obtain ⟨a, vs, e, h1, h2, h3, h4, h5⟩ := h
  refine ⟨a, vs, e, h1, RVs.monoE (g := g) (g' := g.with P) (H := H) ⟨fun _ h => h, fun _ _ => rfl, List.prefix_refl _⟩ h2, h3, h4, hp a e⟩
theorem Rel.with {P : Addr → HO → Prop} (R : Rel K g H S ρ σ) (h1 : ∀ b o, P b o → H b = some o ∧ ¬ g.fz b) (h2 : ∀ b, b ∈ g.io → ∀ o, ¬ P b o) (h3 : ∀ b o, P b o → Apart ρ σ (.ref b)) : Rel K (g.with P) H S ρ σ := by
  have x : Ex g H (g.with P) H := ⟨fun _ h => h, fun _ _ => rfl, List.prefix_refl _⟩
  refine ⟨R.len, fun i r e => ?_, R.inj, R.iol, R.ion, fun n a mo e1 e2 => ?_, R.fzt, h1⟩
  · obtain ⟨v, q1, q2⟩ := R.slot i r e
    refine ⟨v, q1, ?_⟩
    cases r with
    | v u => exact RV.monoE x q2
    | own xs => exact OwnAt.with q2 fun a ea o hp => h3 a o hp i xs e (by rw [← ea]; exact q1)
  · obtain ⟨q1, q2, q3⟩ := R.sto n a mo e1 e2
    refine ⟨?_, q2, h2 a (List.mem_of_getElem? e1)⟩
    cases mo with
    | lst xs => obtain ⟨vs, z1, z2⟩ := q1; exact ⟨vs, z1, RVs.monoE x z2⟩
    | ins c fs => exact q1.elim
/-- one object more is protected -/
theorem Rel.protect {D : Addr} {o : HO} (R : Rel K g H S ρ σ) (hD : H D = some o) (hf : ¬ g.fz D) (hi : D ∉ g.io) (ha : Apart ρ σ (.ref D)) (hp : ∀ u, ¬ g.Pr D u) : Rel K (g.with (plus g.Pr D o)) H S ρ σ := by
  refine R.with (fun b u h => ?_) (fun b hb u h => ?_) fun b u h => ?_
  · rcases h with h | ⟨rfl, rfl⟩
    · exact R.prt b u h
    · exact ⟨hD, hf⟩
  · rcases h with h | ⟨rfl, rfl⟩
    · obtain ⟨n, hn, e⟩ := List.mem_iff_getElem.mp hb
      have e1 : g.io[n]? = some b := by rw [List.getElem?_eq_getElem hn, e]
      have hs : n < S.length := by rw [← R.iol]; exact hn
      exact (R.sto n b _ e1 (List.getElem?_eq_getElem hs)).2.2 u h
    · exact hi hb
  · rcases h with h | ⟨rfl, rfl⟩
    · intro i ys e1 e2
      obtain ⟨v, q1, a, vs, ea, _, _, _, _, q6⟩ := R.slot i _ e1
      rw [e2] at q1
      have q1 := Option.some.inj (Option.some.inj q1)
      rw [← q1] at ea
      have ea := V.ref.inj ea
      exact q6 u (by rw [← ea]; exact h)
    · exact ha
/-- what is known of the protected one -/
theorem Rel.apart {D : Addr} {o : HO} (R : Rel K g H S ρ σ) (h : g.Pr D o) : H D = some o ∧ ¬ g.fz D ∧ D ∉ g.io ∧ Apart ρ σ (.ref D) := by
  refine ⟨(R.prt D o h).1, (R.prt D o h).2, fun hb => ?_, fun i ys e1 e2 => ?_⟩
  · obtain ⟨n, hn, e⟩ := List.mem_iff_getElem.mp hb
    have e1 : g.io[n]? = some D := by rw [List.getElem?_eq_getElem hn, e]
    have hs : n < S.length := by rw [← R.iol]; exact hn
    exact (R.sto n D _ e1 (List.getElem?_eq_getElem hs)).2.2 o h
  · obtain ⟨v, q1, a, vs, ea, _, _, _, _, q6⟩ := R.slot i _ e1
    rw [e2] at q1
    have q1 := Option.some.inj (Option.some.inj q1)
    rw [← q1] at ea
    have ea := V.ref.inj ea
    exact q6 o (by rw [← ea]; exact h)
/-- it is no longer protected -/
theorem Rel.unprotect {P : Addr → HO → Prop} (R : Rel K g H S ρ σ) (h : ∀ b o, P b o → g.Pr b o) : Rel K (g.with P) H S ρ σ :=
  R.with (fun b o q => R.prt b o (h b o q)) (fun b hb o q => ((R.apart (h b o q)).2.2.1 hb)) fun b o q => (R.apart (h b o q)).2.2.2
/-- an object that nobody holds is changed -/
theorem Rel.change {D : Addr} {o : HO} (R : Rel K g H S ρ σ) (hf : ¬ g.fz D) (hi : D ∉ g.io) (ha : Apart ρ σ (.ref D)) (hp : ∀ u, ¬ g.Pr D u) : Ext g H g (upd H D o) ∧ Rel K g (upd H D o) S ρ σ := by
  have X : Ext g H g (upd H D o) := ⟨rfl, fun _ h => h, fun b hb => upd_ne fun e => hf (e ▸ hb), List.prefix_refl _⟩
  refine ⟨X, R.len, fun i r e => ?_, R.inj, R.iol, R.ion, fun n a mo e1 e2 => ?_, fun b hb => ?_, fun b u q => ?_⟩
  · obtain ⟨v, q1, q2⟩ := R.slot i r e
    refine ⟨v, q1, ?_⟩
    cases r with
    | v u => exact RV.mono X q2
    | own xs =>
      obtain ⟨a, vs, rfl, h1, h2, h3, h4, h5⟩ := q2
      have ne : a ≠ D := fun z => ha i xs e (by rw [← z]; exact q1)
      exact ⟨a, vs, rfl, by rw [upd_ne ne]; exact h1, h2.mono X, h3, h4, h5⟩
  · obtain ⟨q1, q2, q3⟩ := R.sto n a mo e1 e2
    have ne : a ≠ D := fun z => hi (by rw [← z]; exact List.mem_of_getElem? e1)
    exact ⟨q1.ext X (upd_ne ne), q2, q3⟩
  · obtain ⟨u, e⟩ := R.fzt b hb
    exact ⟨u, by rw [upd_ne (show b ≠ D from fun z => hf (z ▸ hb))]; exact e⟩
  · obtain ⟨h1, h2⟩ := R.prt b u q
    exact ⟨by rw [upd_ne (show b ≠ D from fun z => hp u (z ▸ q))]; exact h1, h2⟩
end
theorem wipe_agree {is js : List Nat} {σ σ' : St} (h : Agree js σ σ') (hs : ∀ j ∈ js, j ∈ is) : L2.wipe σ' is = L2.wipe σ is := by
  apply List.ext_getElem?
  intro j
  by_cases hj : j ∈ is
  · have : ∀ (τ : St) (is : List Nat), j ∈ is → (L2.wipe τ is)[j]? = if j < τ.length then some none else none := by
      intro τ is
      induction is with
      | nil => intro h; simp at h
      | cons i is ih =>
        intro h
        unfold L2.wipe
        by_cases hi : i = j
        · subst hi
          by_cases hl : i < τ.length
          · rw [List.getElem?_set_self (by rw [L2.wipe_length]; exact hl), if_pos hl]
          · rw [if_neg hl]
            exact List.getElem?_eq_none (by rw [List.length_set, L2.wipe_length]; omega)
        · rw [List.getElem?_set_ne hi]
          rcases List.mem_cons.mp h with z | z
          · exact absurd z.symm hi
          · exact ih z
    rw [this σ' is hj, this σ is hj, h.1]
  · rw [L2.wipe_out hj, L2.wipe_out hj]
    exact h.2 j fun z => hj (hs j z)
end DL

end

section
set_option Elab.async false
set_option linter.all false
set_option autoImplicit false
set_option maxHeartbeats 1000000
/-! DL10: comprehensions, loops. -/
namespace DL
open PySem L2

/-- a block's turn: the test, then the element -/
def TBv (K : Frag) (m : Env → Sto → DL.R (Option Vl)) (tt : TT) (te : TE) : Prop :=
  ∀ (σ : St) (H : Hp) (Q : Option V → Hp → Prop) (g : Gh) (ρ : Env) (S : Sto) (y : Option Vl) (ρ' : Env) (S' : Sto), Rel K g H S ρ σ → m ρ S = .ok y ρ' S' →
    (∀ g' H' v, Ext g H g' H' → Rel K g' H' S' ρ' σ → (match y, v with | none, none => True | some u, some v => RV K g' H' u v | _, _ => False) → Q v H') →
    tt σ H fun b H1 => if b = true then te σ H1 fun v H2 => Q (some v) H2 else Q none H1
theorem tb_plain {K : Frag} {m : Env → Sto → DL.R Vl} : TBv K (fun ρ S => (m ρ S).bind fun v ρ1 S1 => .ok (some v) ρ1 S1) tYes (TVl K m) := fun σ H Q g ρ S y ρ' S' R e q => by
  obtain ⟨u, ρ1, S1, e1, e2⟩ := bindEq e
  cases e2
  show if true = true then (TVl K m σ H fun v H2 => Q (some v) H2) else Q none H
  rw [if_pos rfl]
  exact ⟨g, ρ, S, u, _, _, R, e1, fun g' H' v X' R' rv => q g' H' (some v) X' R' rv⟩
theorem tb_if {K : Frag} {c : Env → Sto → DL.R Rv} {m : Env → Sto → DL.R Vl} : TBv K (fun ρ S => (c ρ S).bind fun r ρ3 S3 => match r with
    | .v (.d (.bl true)) => (m ρ3 S3).bind fun v ρ4 S4 => .ok (some v) ρ4 S4
    | .v (.d (.bl false)) => .ok none ρ3 S3
    | _ => .no) (TTv K c) (TVl K m) := fun σ H Q g ρ S y ρ' S' R e q => by
  obtain ⟨r, ρ1, S1, e1, e2⟩ := bindEq e
  split at e2
  · refine ⟨g, ρ, S, true, ρ1, S1, R, e1, fun g1 H1 X1 R1 => ?_⟩
    refine L2.iteT ?_
    obtain ⟨u, ρ2, S2, e3, e4⟩ := bindEq e2
    cases e4
    exact ⟨g1, ρ1, S1, u, _, _, R1, e3, fun g' H' v X' R' rv => q g' H' (some v) (X1.trans X') R' rv⟩
  · refine ⟨g, ρ, S, false, ρ1, S1, R, e1, fun g1 H1 X1 R1 => ?_⟩
    cases e2
    refine L2.iteF ?_
    exact q g1 H1 none X1 R1 trivial
  · cases e2

/-- a comprehension's list, nobody else holds it -/
theorem comp_im {K : Frag} {tg : TG} {own : List Nat} {mI : Env → Sto → DL.R (List Vl)} {mB : Env → Sto → DL.R (Option Vl)} {tt : TT} {te : TE} (hb : TBv K mB tt te) (hs : ∀ j ∈ slots tg, j ∈ own)
    {σ : St} {H : Hp} {Q : VK} {g : Gh} {ρ : Env} {S : Sto} {acc : List Vl} {ρ1 ρ' : Env} {S' : Sto} (R : Rel K g H S ρ σ)
    {xs : List Vl} {S1 : Sto} (e1 : mI ρ S = .ok xs ρ1 S1) (hn : noOwn ρ1 own = true)
    (e2 : turns (fun x ρ S => match bindT tg x S (wipe ρ own) with
          | some ρ2 => mB ρ2 S
          | none => .no) xs [] ρ1 S1 = .ok acc ρ' S')
    (q : ∀ g' H' D vs, Ext g H g' H' → Rel K g' H' S' (unwipe ρ1 ρ' own) σ → H' D = some (.lst vs) → RVs K g' H' acc vs → ¬ g'.fz D → D ∉ g'.io → (∀ o, ¬ g'.Pr D o) → Apart (unwipe ρ1 ρ' own) σ (.ref D) → Q (.ref D) H') :
    tLc (TIv K mI) (TGv K tg) tt te own σ H Q := by
  refine ⟨g, ρ, S, xs, ρ1, S1, R, e1, fun g1 H1 J X1 R1 wk D hD => ?_⟩
  generalize hf : (fun (x : Vl) (ρ : Env) (S : Sto) => match bindT tg x S (wipe ρ own) with
          | some ρ2 => mB ρ2 S
          | none => DL.R.no) = f at e2
  have noP : ∀ o, ¬ g1.Pr D o := fun o h => by have := (R1.prt D o h).1; rw [hD] at this; cases this
  -- between two turns
  refine ⟨fun i m H => m = xs.length - i ∧ i ≤ xs.length ∧ ∃ g2 ρi Si ac va, Ex g1 H1 g2 H ∧ g2.Pr = plus g1.Pr D (.lst va) ∧ Rel K g2 H Si (wipe ρi own) (L2.wipe σ own) ∧ RVs K g2 H ac va ∧ turns f (xs.drop i) ac ρi Si = .ok acc ρ' S', ⟨xs.length, by simp, Nat.zero_le _, ?_⟩, ?_⟩
  · obtain ⟨X2, R2⟩ := R1.laidO (o := .lst []) hD
    obtain ⟨⟨a, vs, ea, q1, q2, q3, q4, q5⟩, q6⟩ := R1.fresh_own (xs := []) (vs := []) hD rfl
    have ea := V.ref.inj ea
    subst ea
    have R3 := R2.protect q1 q3 q4 q6 q5
    refine ⟨g1.with (plus g1.Pr D (.lst vs)), ρ1, S1, [], vs, X2.ex.trans (g2 := g1.with (plus g1.Pr D (.lst vs))) ⟨fun _ h => h, fun _ _ => rfl, List.prefix_refl _⟩, ?_, R3.wipe own, ?_, by simpa using e2⟩
    · have hv : vs = [] := q2
      subst hv; rfl
    · have hv : vs = [] := q2
      exact hv
  rintro i m H2 ⟨rfl, hi, g2, ρi, Si, ac, va, X2, hp, R2, ra, et⟩
  obtain ⟨d1, d2, d3, d4⟩ := R2.apart (D := D) (o := .lst va) (by rw [hp]; exact .inr ⟨rfl, rfl⟩)
  by_cases hlt : i < xs.length
  · have hx : xs[i]? = some xs[i] := List.getElem?_eq_getElem hlt
    have ed : xs.drop i = xs[i] :: xs.drop (i + 1) := List.drop_eq_getElem_cons hlt
    rw [ed] at et
    unfold turns at et
    obtain ⟨y, ρa, Sa, ea, eb⟩ := bindEq et
    refine .inr ⟨wk.go i g2 H2 Si _ _ hlt X2 R2, fun H' => ∃ m', m' < xs.length - i ∧ (m' = xs.length - (i + 1) ∧ i + 1 ≤ xs.length ∧ ∃ g2 ρi Si ac va, Ex g1 H1 g2 H' ∧ g2.Pr = plus g1.Pr D (.lst va) ∧ Rel K g2 H' Si (wipe ρi own) (L2.wipe σ own) ∧ RVs K g2 H' ac va ∧ turns f (xs.drop (i + 1)) ac ρi Si = .ok acc ρ' S'), fun H' h => h, fun x H3 yl => ?_⟩
    obtain ⟨g3, X3, R3, rx⟩ := wk.yld i g2 H2 Si _ _ x H3 _ hx X2 R2 yl
    rw [← hf] at ea
    simp only at ea
    split at ea
    · rename_i ρ2 hbind
      refine ⟨g3, _, Si, _, ρ2, R3, rx, hbind, fun σ2 R4 ag => ⟨?_, ?_⟩⟩
      · rw [wipe_agree ag hs]
        exact wipe_agree (js := own) ⟨L2.wipe_length _ _, fun j hj => L2.wipe_out hj⟩ fun j h => h
      · have key := hb σ2 H3 (fun v H4 => match v with
          | some v => ∃ ac0, H4 D = some (.lst ac0) ∧ ac0.length < sizeLine ∧ ∃ m', m' < xs.length - i ∧ (m' = xs.length - (i + 1) ∧ i + 1 ≤ xs.length ∧ ∃ g2 ρi Si ac va, Ex g1 H1 g2 (upd H4 D (.lst (ac0 ++ [v]))) ∧ g2.Pr = plus g1.Pr D (.lst va) ∧ Rel K g2 (upd H4 D (.lst (ac0 ++ [v]))) Si (wipe ρi own) (L2.wipe σ own) ∧ RVs K g2 (upd H4 D (.lst (ac0 ++ [v]))) ac va ∧ turns f (xs.drop (i + 1)) ac ρi Si = .ok acc ρ' S')
          | none => ∃ m', m' < xs.length - i ∧ (m' = xs.length - (i + 1) ∧ i + 1 ≤ xs.length ∧ ∃ g2 ρi Si ac va, Ex g1 H1 g2 H4 ∧ g2.Pr = plus g1.Pr D (.lst va) ∧ Rel K g2 H4 Si (wipe ρi own) (L2.wipe σ own) ∧ RVs K g2 H4 ac va ∧ turns f (xs.drop (i + 1)) ac ρi Si = .ok acc ρ' S')) g3 ρ2 Si y ρa Sa R4 ea fun g4 H4 v X4 R5 rv => ?_
        · exact key
        · have wag : L2.wipe σ2 own = L2.wipe σ own := by
            rw [wipe_agree ag hs]
            exact wipe_agree (js := own) ⟨L2.wipe_length _ _, fun j hj => L2.wipe_out hj⟩ fun j h => h
          have X14 : Ex g1 H1 g4 H4 := X2.trans (X3.ex.trans X4.ex)
          have hp4 : g4.Pr = plus g1.Pr D (.lst va) := (X4.pr.trans X3.pr).trans hp
          have ra4 : RVs K g4 H4 ac va := (ra.mono X3).mono X4
          have R6 : Rel K g4 H4 Sa (wipe ρa own) (L2.wipe σ own) := by rw [← wag]; exact R5.wipe own
          cases y with
          | none =>
            cases v with
            | some v => exact rv.elim
            | none =>
              simp only at eb
              exact ⟨xs.length - (i + 1), by omega, rfl, hlt, g4, ρa, Sa, ac, va, X14, hp4, R6, ra4, eb⟩
          | some u =>
            cases v with
            | none => exact rv.elim
            | some v =>
              simp only at eb
              split at eb
              · rename_i hbig
                obtain ⟨c1, c2, c3, c4⟩ := R5.apart (D := D) (o := .lst va) (by rw [hp4]; exact .inr ⟨rfl, rfl⟩)
                refine ⟨va, c1, by rw [ra4.length]; exact Nat.lt_of_lt_of_le hbig (by decide), xs.length - (i + 1), by omega, rfl, hlt, ?_⟩
                have R7 := R6.unprotect (P := g1.Pr) fun b o h => by rw [hp4]; exact .inl h
                obtain ⟨c1', c2', c3', c4'⟩ := R6.apart (D := D) (o := .lst va) (by rw [hp4]; exact .inr ⟨rfl, rfl⟩)
                obtain ⟨X8, R8⟩ := R7.change (o := .lst (va ++ [v])) c2' c3' c4' noP
                have R9 := R8.protect (D := D) upd_same c2' c3' c4' noP
                have X48 : Ex g4 H4 (g4.with g1.Pr) (upd H4 D (.lst (va ++ [v]))) := ⟨fun b h => h, fun b h => X8.eq b h, List.prefix_refl _⟩
                have X89 : Ex (g4.with g1.Pr) (upd H4 D (.lst (va ++ [v]))) ((g4.with g1.Pr).with (plus g1.Pr D (.lst (va ++ [v])))) (upd H4 D (.lst (va ++ [v]))) := ⟨fun b h => h, fun b h => rfl, List.prefix_refl _⟩
                refine ⟨_, ρa, Sa, ac ++ [u], va ++ [v], X14.trans (X48.trans X89), rfl, R9, ?_, eb⟩
                exact RVs.monoE (X48.trans X89) (RVs.app (RVs.one rv) ra4)
              · cases eb
    · cases ea
  · have ei : i = xs.length := by omega
    subst ei
    rw [List.drop_length] at et
    unfold turns at et
    cases et
    refine .inl ⟨wk.stop g2 H2 _ _ _ X2 R2, ?_⟩
    have R3 := R2.unprotect (P := g1.Pr) fun b o h => by rw [hp]; exact .inl h
    have R4 := R3.unwipe R1 (X2.trans (g2 := g2.with g1.Pr) ⟨fun _ h => h, fun _ _ => rfl, List.prefix_refl _⟩) hn
    have X5 : Ex g1 H1 (g2.with g1.Pr) H2 := X2.trans (g2 := g2.with g1.Pr) ⟨fun _ h => h, fun _ _ => rfl, List.prefix_refl _⟩
    refine q (g2.with g1.Pr) H2 D va (X1.trans ⟨rfl, X5.fz, X5.eq, X5.io⟩) R4 d1 (RVs.monoE (g := g2) (g' := g2.with g1.Pr) (H := H2) ⟨fun _ h => h, fun _ _ => rfl, List.prefix_refl _⟩ ra) d2 d3 noP fun j ys e1 e2 => ?_
    -- D is younger than the slots
    by_cases hj : j ∈ own
    · have l : ρ'.length = ρ1.length := by
        have h1 := R2.len
        have h2 := R1.len
        rw [wipe_len, L2.wipe_length] at h1
        omega
      rw [unwipe_in l hj] at e1
      exact noOwn_at hn hj e1
    · rw [unwipe_out hj] at e1
      exact d4 j ys (by rw [wipe_other hj]; exact e1) (by rw [L2.wipe_out hj]; exact e2)
end DL

end

section
set_option Elab.async false
set_option linter.all false
set_option autoImplicit false
set_option maxHeartbeats 1000000
/-! DLrev: t[::-1] of a tuple. -/
namespace DL
open PySem PySem.Spec PyProof.Rows L2 HT
section
variable {prog : Program} {w : World} {A : Around} {E : Value → Shared → Prop} {s : Shared}
theorem places_rev (n : Nat) : Builtin.Slice.slicePlaces ((n : Int) - 1) (-1) (-1) = n := by
  unfold Builtin.Slice.slicePlaces
  have h1 : ¬ ((-1 : Int) > 0) := by decide
  rw [if_neg h1]
  split
  · have : ((n : Int) - 1 - -1 - 1) / (- -1) + 1 = n := by
      have : (- -1 : Int) = 1 := by decide
      rw [this, Int.ediv_one]; omega
    rw [this]; omega
  · omega
theorem sliceApplied_rev {sl : Addr} {vs : Value} {n : Nat} {Q : Int × Int × Nat → Shared → Prop} (hs : s.heap.IsSliceOf sl .none .none vs) (ps : IsPart vs (some (-1)))
    (h : Q ((n : Int) - 1, -1, n) s) : wpAny (model prog w) A (Builtin.Slice.sliceApplied (.ref sl) (pure (n : Int))) Q E s := by
  obtain ⟨os, hos, hcs, hds⟩ := id hs
  unfold Builtin.Slice.sliceApplied Builtin.Slice.sliceFields
  refine wpAny_bind (wpAny_bind (wpAny_field hos hds (x := .none) rfl (wpAny_bind (wpAny_field hos hds (x := .none) rfl (wpAny_bind (wpAny_field hos hds (x := vs) rfl (wpAny_pure ?_)))))))
  refine wpAny_bind (slicePart_ ps ?_)
  show wpAny _ _ (if ((-1 : Int) == 0) = true then _ else _) _ _ s
  rw [if_neg (by decide)]
  refine wpAny_bind (slicePart_ .none (wpAny_bind (slicePart_ .none (wpAny_bind (wpAny_pure ?_)))))
  show wpAny _ _ (match Builtin.Slice.sliceAdjust none none (-1) (n : Int) with | (lo, hi) => pure (lo, (-1 : Int), Builtin.Slice.slicePlaces lo hi (-1))) _ _ s
  have e : Builtin.Slice.sliceAdjust none none (-1) (n : Int) = ((n : Int) - 1, -1) := rfl
  rw [e]
  show wpAny _ _ (pure ((n : Int) - 1, (-1 : Int), Builtin.Slice.slicePlaces ((n : Int) - 1) (-1) (-1))) _ _ s
  rw [places_rev]
  exact wpAny_pure h
theorem fm_congr {α β : Type} {f g : α → Option β} : ∀ {l : List α}, (∀ a ∈ l, f a = g a) → l.filterMap f = l.filterMap g
  | [], _ => rfl
  | a :: l, h => by
    rw [List.filterMap_cons, List.filterMap_cons, h a (by simp), fm_congr fun b hb => h b (by simp [hb])]
theorem pick_rev (xs : Array Value) : ((List.range xs.size).filterMap fun (k : Nat) => xs[((xs.size : Int) - 1 + (k : Int) * -1).toNat]?).toArray = xs.toList.reverse.toArray := by
  have h := pick_gen xs.toList.reverse.toArray 0 xs.size
  have e : (List.range xs.size).filterMap (fun (k : Nat) => xs[((xs.size : Int) - 1 + (k : Int) * -1).toNat]?) = (List.range xs.size).filterMap fun (m : Nat) => xs.toList.reverse.toArray[(((0 : Nat) : Int) + (m : Int) * 1).toNat]? := by
    apply fm_congr
    intro k hk
    have hk := List.mem_range.mp hk
    have e1 : ((xs.size : Int) - 1 + (k : Int) * -1).toNat = xs.size - 1 - k := by omega
    have e2 : (((0 : Nat) : Int) + (k : Int) * 1).toNat = k := by omega
    rw [e1, e2]
    have hk2 : k < xs.toList.length := by rw [Array.length_toList]; exact hk
    have e3 : xs.toList.reverse.toArray[k]? = xs.toList.reverse[k]? := by simp only [List.getElem?_toArray]
    rw [e3, List.getElem?_reverse hk2, Array.length_toList, Array.getElem?_toList]
  rw [e, h]
  rw [List.drop_zero, List.take_of_length_le (by simp)]
theorem getItem_tuple_rev {t sl : Addr} {items : Array Value} {vs : Value} {Q : Value → Shared → Prop} (ht : IsTup s.heap t items) (hs : s.heap.IsSliceOf sl .none .none vs) (ps : IsPart vs (some (-1)))
    (h : Q (.ref s.heap.objs.size) { s with heap := s.heap.push { cls := .type "tuple", data := .seq items.toList.reverse.toArray } })
    (hsz : items.size ≤ sizeLine) : wpAny (model prog w) A (getItem (.ref t) (.ref sl)) Q E s := by
  have htake : sizeOk (.seq items.toList.reverse.toArray) := by
    show items.toList.reverse.toArray.size ≤ sizeLine
    simpa using hsz
  obtain ⟨os, hos, hcs, hds⟩ := id hs
  have hTs : s.TypeIs (.ref sl) "slice" := ⟨os, hos, hcs⟩
  unfold getItem
  try with_reducible refine wpAny_holding ?_
  first | refine wpAny_bind (wpAny_pure ?_) | skip
  refine wpAny_bind (wpAny_sequenceKey ht.typeIs (by decide) ?_)
  refine wpAny_bind (wpAny_callSpecial?_slot (name := Str.ofString "__getitem__") ht.typeIs PyProof.Rows.slot_tuple_getitem
    (wpAny_call_entry PyProof.Rows.slot_tuple_getitem ht.typeIs entry_tuple_getitem ?_ (args_tuple_getitem _ _)))
  show wpAny _ _ (Builtin.Tuple.tupleItemsOf (.ref t) >>= _) _ _ s
  refine wpAny_bind (tupleItemsOf_ ht ?_)
  refine wpAny_bind (wpAny_typeOf hTs ?_)
  rw [if_pos (by decide)]
  refine wpAny_bind (sliceApplied_rev hs ps ?_)
  have hno : ¬ (((items.size : Int) - 1 == 0 && (-1 : Int) == 1 && items.size == items.size) = true) := by
    intro q
    rw [Bool.and_eq_true, Bool.and_eq_true] at q
    exact absurd q.1.2 (by decide)
  show wpAny _ _ (if ((items.size : Int) - 1 == 0 && (-1 : Int) == 1 && items.size == items.size) = true then _ else _) _ _ s
  rw [if_neg hno, pick_rev]
  first
    | exact wpAny_bind (m := Builtin.Tuple.tupleExact _) (wpAny_newObj_type (wpAny_pure ⟨_, rfl, wpAny_pure h⟩) htake)
    | exact wpAny_bind (m := Builtin.Tuple.tupleExact _) (wpAny_newObj_type (wpAny_bind (wpAny_pure (wpAny_pure ⟨_, rfl, wpAny_pure h⟩))) htake)
    | exact wpAny_bind (wpAny_bind (m := Builtin.Tuple.tupleExact _) (wpAny_newObj_type (wpAny_pure (wpAny_pure ⟨_, rfl, wpAny_pure h⟩)) htake))
    | exact wpAny_bind (wpAny_bind (m := Builtin.Tuple.tupleExact _) (wpAny_newObj_type (wpAny_pure ⟨_, rfl, wpAny_pure h⟩) htake))
end
def tRevT (K : Frag) (te : TE) : TE := fun σ H Q => te σ H fun x H1 => ∃ a xs, x = .ref a ∧ SqT K H1 a xs ∧ ∀ p, H1 p = none → Q (.ref p) (upd H1 p (.tup xs.reverse))
theorem pe_revT {X : Cx} {e : Expr} {te : TE} {k : Nat} {p1 p2 p3 pos : Pos} (he : PE X e te) : PE X (.Subscript e (.Slice none none (some (.UnaryOp .USub (.Constant (.int 1) k p1) p2)) p3) pos) (tRevT X.K te) := by
  refine ⟨fun pins s σ H Q I h => ?_⟩
  refine Subscript_ (thn (he.run pins s σ H _ I h) fun v s1 ⟨x, H1, I1, r1, q1⟩ => ?_)
  obtain ⟨a, xs, ex, hx, q⟩ := q1
  subst ex
  cases r1
  have hst : PO X (some (.UnaryOp .USub (.Constant (.int 1) k p1) p2)) (tPart (tUn (rU fun i => .int (-i)) (tC (.int 1)))) := po_some (pe_un un_neg pe_int)
  refine wpAny_Slice (thn (po_none.run pins s1 σ H1 (fun o H2 => o = none ∧ H2 = H1) I1 ⟨rfl, rfl⟩) fun vl s2 ⟨l, H2, I2, pl, el, e2⟩ => ?_)
  subst el e2
  refine thn (po_none.run pins s2 σ H2 (fun o H3 => o = none ∧ H3 = H2) I2 ⟨rfl, rfl⟩) fun vu s3 ⟨u, H3, I3, pu, eu, e3⟩ => ?_
  subst eu e3
  refine thn (hst.run pins s3 σ H3 (fun o H4 => o = some (-1) ∧ H4 = H3) I3 ⟨1, rfl, -1, rfl, rfl, rfl⟩) fun vs s4 ⟨o, H4, I4, ps, eo, e4⟩ => ?_
  subst eo e4
  cases pl
  cases pu
  have I5 : Inv X pins σ H4 { s4 with heap := s4.heap.push { cls := .type "slice", data := .fields #[.none, .none, vs] } } := I4.kept (t' := s4.toks) fun b ob q => Heap.get?_push_of_some _ q
  obtain ⟨its, r, ht, hz⟩ := I5.tuple hx
  have hlen := r.length
  show wpAny (model X.prog X.w) X.A (subscriptTail e (.Slice none none (some (.UnaryOp .USub (.Constant (.int 1) k p1) p2)) p3) (.ref a) (.ref s4.heap.objs.size)) (EP X pins σ Q) X.xe { s4 with heap := s4.heap.push { cls := .type "slice", data := .fields #[.none, .none, vs] } }
  refine tail_any (ops := [.ref a, .ref s4.heap.objs.size]) ht.typeIs (PyProof.Rows.slot_tuple_getitem.lookup) ?_ (by with_unfolding_all rfl)
  refine getItem_tuple_rev ht (Heap.IsSliceOf.new _ .none .none vs) ps ?_ (by rw [List.size_toArray]; omega)
  refine ⟨.ref _, _, I5.laid (t' := s4.toks) (o := .tup xs.reverse) (fun b ob q => Heap.get?_push_of_some _ q) (Nat.le_refl _) ?_, rfl, q _ (I5.hok.fresh (Nat.le_refl _))⟩
  exact ⟨by rw [List.length_reverse]; exact hz, its.reverse, r.reverse, IsTup.new _ _⟩
end DL

end

section
set_option Elab.async false
set_option linter.all false
set_option autoImplicit false
set_option maxHeartbeats 1000000
/-! DLd: a written dict of the module, text keys. -/
namespace DL
open PySem PySem.Spec PyProof.Rows L2
/-- the dict's rows, in order -/
def DPairs (K : Frag) : List (Str × D) → List DictEntry → Prop
  | [], es => es = []
  | (k, d) :: r, es => ∃ e es', es = e :: es' ∧ (∃ t, e.key = .str k t) ∧ (∃ v, RelV v e.val ∧ ∀ fz H, RD K fz H d v) ∧ DPairs K r es'
structure KD (K : Frag) (w : World) (a : Addr) (kvs : List (Str × D)) : Prop where
  at_ : ∃ es n, K.lookup a = some ⟨.type "dict", none, .dict es n, #[]⟩ ∧ PySem.W.KeysLit w.params es.toList ∧ DPairs K kvs es.toList
  low : (a == sysModules) = false
  nd : (kvs.map (·.1)).Nodup
  sz : kvs.length ≤ 1000
/-- the rows as values -/
def KVd (K : Frag) : List (Str × D) → List (Str × Value) → Prop
  | [], us => us = []
  | (k, d) :: r, us => ∃ u us', us = (k, u) :: us' ∧ (∃ v, RelV v u ∧ ∀ fz H, RD K fz H d v) ∧ KVd K r us'
theorem KVd.keys {K : Frag} : ∀ {kvs : List (Str × D)} {us : List (Str × Value)}, KVd K kvs us → us.map (·.1) = kvs.map (·.1)
  | [], us, h => by have h : us = [] := h; subst h; rfl
  | (k, d) :: r, us, h => by
    obtain ⟨u, us', rfl, _, q⟩ := h
    simp [KVd.keys q]
theorem KVd.length {K : Frag} {kvs : List (Str × D)} {us : List (Str × Value)} (h : KVd K kvs us) : us.length = kvs.length := by
  have := congrArg List.length h.keys; simpa using this
theorem KVd.look {K : Frag} : ∀ {kvs : List (Str × D)} {us : List (Str × Value)} (k : Str), KVd K kvs us → (valueAt us k).isSome = (lookD kvs k).isSome ∧ ∀ d, lookD kvs k = some d → ∃ u v, valueAt us k = some u ∧ RelV v u ∧ ∀ fz H, RD K fz H d v
  | [], us, k, h => by
    have h : us = [] := h
    subst h
    exact ⟨rfl, fun d e => nomatch e⟩
  | (k', d) :: r, us, k, h => by
    obtain ⟨u, us', rfl, ⟨v, h1, h2⟩, q⟩ := h
    unfold valueAt lookD
    by_cases hk : k' = k
    · subst hk
      simp only [List.find?_cons, decide_true, Option.map_some, Option.isSome_some, true_and]
      intro d' e
      cases e
      exact ⟨u, v, rfl, h1, h2⟩
    · simp only [List.find?_cons, hk, decide_false]
      exact KVd.look k q
section
variable {X : Cx} {pins : List (Addr × Obj)} {σ : L2.St} {H : Hp} {s : Shared} {a : Addr} {kvs : List (Str × D)}
theorem DPairs.kvd {P : Program} {w : World} {K : Frag} : ∀ {kvs : List (Str × D)} {es : List DictEntry}, DPairs K kvs es → ∃ us, KVd K kvs us ∧ Pairs (strKind P w) es us
  | [], es, h => by
    have h : es = [] := h
    subst h
    exact ⟨[], rfl, .nil⟩
  | (k, d) :: r, es, h => by
    obtain ⟨e, es', rfl, ⟨t, hk⟩, hv, q⟩ := h
    obtain ⟨us, h1, h2⟩ := DPairs.kvd (P := P) (w := w) q
    refine ⟨(k, e.val) :: us, ⟨e.val, us, rfl, hv, h1⟩, .cons ?_ rfl h2⟩
    rw [hk]
    exact strKind_is P w k t
theorem KD.dict (h : KD X.K X.w a kvs) (I : L2.Inv X pins σ H s) : ∃ us, KVd X.K kvs us ∧ s.heap.DictOf (strKind X.prog X.w) a us := by
  obtain ⟨es, n, hl, hk, hp⟩ := h.at_
  obtain ⟨us, h1, h2⟩ := hp.kvd (P := X.prog) (w := X.w)
  refine ⟨us, h1, ⟨.type "dict", none, .dict es n, #[]⟩, es, n, I.kIn _ _ hl, ⟨rfl, rfl, rfl⟩, rfl, fun e he => ?_, h2, ?_⟩
  · obtain ⟨x, t, e1, e2⟩ := hk.all e (Array.mem_toList_iff.mpr he)
    exact ⟨x, by rw [e1]; exact strKind_is X.prog X.w x t, e2⟩
  · rw [h1.keys]; exact h.nd
/-- d[k] -/
def rKDget (X : Cx) : R2 := fun x y H Q => ∃ a kvs k d, x = .ref a ∧ y = .str k ∧ KD X.K X.w a kvs ∧ lookD kvs k = some d ∧ ∀ v, (∀ fz H, RD X.K fz H d v) → Q v H
theorem ix_kd : IxR X (rKDget X) := by
  intro value slice pins s σ H x y v u Q I rx ry h hs
  obtain ⟨p, kvs, k, d, rfl, rfl, kd, hl, q⟩ := h
  obtain rfl : v = Value.ref p := rx
  obtain ⟨t, rfl⟩ := ry
  obtain ⟨us, h1, h2⟩ := kd.dict I
  obtain ⟨u', v', e1, e2, e3⟩ := (h1.look k).2 d hl
  exact tail_any h2.mapOf.typeIs PySem.F.slot_dict_getitem.lookup (wpAny_getItem_of (strKind_is X.prog X.w k t) h2.mapOf e1 ⟨v', H, I.tok _, e2, q v' e3⟩) hs
def rKDin (X : Cx) (neg : Bool) : R2 := fun y x H Q => ∃ a kvs k, x = .ref a ∧ y = .str k ∧ KD X.K X.w a kvs ∧ Q (.bl (neg != (lookD kvs k).isSome)) H
theorem pc_kdin {i o : Expr} {ty td : TE} (hi : PE X i ty) (ho : PE X o td) : PC X .In i o (tOp (rKDin X false) ty td) := by
  refine ⟨fun pins s σ H Q I h => ?_⟩
  refine thn (hi.run pins s σ H _ I h) fun iv s1 ⟨y, H1, I1, ry, q1⟩ => thn (ho.run pins s1 σ H1 _ I1 q1) fun u s2 ⟨x, H2, I2, rx, a, kvs, k, ex, ey, kd, q2⟩ => ?_
  subst ex
  subst ey
  obtain rfl : u = Value.ref a := rx
  obtain ⟨t, rfl⟩ := ry
  obtain ⟨us, h1, h2⟩ := kd.dict I2
  refine wpAny_in_of (strKind_is X.prog X.w k t) kd.low h2.mapOf ?_
  rw [(h1.look k).1]
  refine ⟨.bl (lookD kvs k).isSome, H2, I2.tok _, rfl, ?_⟩
  have e : (false != (lookD kvs k).isSome) = (lookD kvs k).isSome := by cases (lookD kvs k).isSome <;> rfl
  rw [e] at q2
  exact q2
theorem pc_kdnin {i o : Expr} {ty td : TE} (hi : PE X i ty) (ho : PE X o td) : PC X .NotIn i o (tOp (rKDin X true) ty td) := by
  refine ⟨fun pins s σ H Q I h => ?_⟩
  refine thn (hi.run pins s σ H _ I h) fun iv s1 ⟨y, H1, I1, ry, q1⟩ => thn (ho.run pins s1 σ H1 _ I1 q1) fun u s2 ⟨x, H2, I2, rx, a, kvs, k, ex, ey, kd, q2⟩ => ?_
  subst ex
  subst ey
  obtain rfl : u = Value.ref a := rx
  obtain ⟨t, rfl⟩ := ry
  obtain ⟨us, h1, h2⟩ := kd.dict I2
  refine wpAny_notIn_of (strKind_is X.prog X.w k t) kd.low h2.mapOf ?_
  rw [(h1.look k).1]
  refine ⟨.bl (!(lookD kvs k).isSome), H2, I2.tok _, rfl, ?_⟩
  have e : (true != (lookD kvs k).isSome) = !(lookD kvs k).isSome := by cases (lookD kvs k).isSome <;> rfl
  rw [e] at q2
  exact q2
def rKDlen (X : Cx) : List V → Hp → VK → Prop := fun xs H Q => ∃ a kvs, xs = [.ref a] ∧ KD X.K X.w a kvs ∧ Q (.int ((kvs.length : Nat) : Int)) H
theorem call_kdlen : CallR X (.builtin "len") (rKDlen X) := by
  intro pins s σ H xs us Q I r h
  obtain ⟨p, kvs, rfl, kd, q⟩ := h
  obtain ⟨u, rfl, rx⟩ := vals1 r
  obtain rfl : u = .ref p := rx
  obtain ⟨us, h1, h2⟩ := kd.dict I
  refine call_len_dict kd.low h2 (by rw [h1.length]; have := kd.sz; omega) ?_
  rw [h1.length]
  exact ⟨.int ((kvs.length : Nat) : Int), H, I.tok _, ⟨_, rfl⟩, q⟩
end
end DL

end

section
set_option Elab.async false
set_option linter.all false
set_option autoImplicit false
set_option maxHeartbeats 1000000
/-! DL11: operations in the text. -/
namespace DL
open PySem L2

/-- what a def promises -/
def spD (K : Frag) (f : List Vl → Sto → Option (Rv × Sto)) : Sp := fun vs H Q _ => ∃ g S us r S', Rel K g H S [] [] ∧ RVs K g H us vs ∧ f us S = some (r, S') ∧
  ∀ g' H' v, Ext g H g' H' → Rel K g' H' S' [] [] → SlotOk K g' H' r v → Q v H'
def blts : List Str := ["len", "int", "tuple", "list", "all", "isinstance", "bool", "str", "range", "zip"]
structure Good (G : Gls) (F : Fns) (k : Nat) (c : Cc) (X : Cx) : Prop extends Fits c X where
  room : Room k X.A
  blt : ∀ x, x ∈ blts → X.mg x = none
  gl : ∀ x d, G.c x = some d → ∃ u v, X.mg x = some u ∧ RelV v u ∧ ∀ fz H, RD X.K fz H d v
  dg : ∀ x kvs, G.d x = some kvs → ∃ a, X.mg x = some (.ref a) ∧ KD X.K X.w a kvs
  df : ∀ f x, c.nm f = some x → ∃ fa fd ps, X.mg x = some (.ref fa) ∧ PySem.W.keepIn X.K (.ref fa) = true ∧ Binds X.K fd ps [] ∧ FnOk X.prog X.w X.K X.mg X.base CX0 k fa fd ps (spD X.K (F f))
theorem Good.units {G : Gls} {F : Fns} {k : Nat} {c : Cc} {X : Cx} (g : Good G F k c X) : X.A.units + 200 < cLine := by have := g.room.un; omega
theorem Fits.glob {c : Cc} {X : Cx} (g : Fits c X) {x : Str} (h : isGlob c.sc x = true) : Gl X x := by
  show X.env.scope.names.lookup x = some .globalImplicit
  rw [g.sc]
  exact isGlob_eq h

/-! ### the operands of an operation in the text -/
def binP (op : Operator) : Expr → Option (List Expr)
  | .BinOp a o b _ => if o = op then some [a, b] else none
  | _ => none
def cmpP (op : CmpOp) : Expr → Option (List Expr)
  | .Compare a [o] [b] _ => if o = op then some [a, b] else none
  | _ => none
def nonP (op : CmpOp) : Expr → Option (List Expr)
  | .Compare a [o] [.Constant .none _ _] _ => if o = op then some [a] else none
  | _ => none
def negP : Expr → Option (List Expr)
  | .UnaryOp .USub a _ => some [a]
  | _ => none
def notSlice : Expr → Bool
  | .Slice _ _ _ _ => false
  | _ => true
def ixP : Expr → Option (List Expr)
  | .Subscript a b _ => if notSlice b then some [a, b] else none
  | _ => none
def callP (sc : Scope) (f : Str) : Expr → Option (List Expr)
  | .Call (.Name x _) [a] [] _ => if x = f ∧ isGlob sc x = true ∧ notStar a = true then some [a] else none
  | _ => none
def isiP (sc : Scope) (t : Str) : Expr → Option (List Expr)
  | .Call (.Name x _) [a, .Name y _] [] _ => if x = "isinstance" ∧ y = t ∧ isGlob sc x = true ∧ isGlob sc y = true ∧ notStar a = true then some [a] else none
  | _ => none
def tyS : Ty → Str
  | .tuple => "tuple"
  | .bool => "bool"
  | .int => "int"
  | .str => "str"
  | .list => "list"
def revP : Expr → Option (List Expr)
  | .Subscript a (.Slice none none (some (.UnaryOp .USub (.Constant (.int i) _ _) _)) _) _ => if i = 1 then some [a] else none
  | _ => none
def parts (sc : Scope) : Op → Expr → Option (List Expr)
  | .add => binP .Add
  | .sub => binP .Sub
  | .mul => binP .Mult
  | .fdiv => binP .FloorDiv
  | .mod => binP .Mod
  | .pow => binP .Pow
  | .shl => binP .LShift
  | .neg => negP
  | .eq => cmpP .Eq
  | .ne => cmpP .NotEq
  | .lt => cmpP .Lt
  | .le => cmpP .LtE
  | .gt => cmpP .Gt
  | .ge => cmpP .GtE
  | .isN => nonP .Is
  | .notN => nonP .IsNot
  | .ix => ixP
  | .len => callP sc "len"
  | .int => callP sc "int"
  | .tuple => callP sc "tuple"
  | .list => callP sc "list"
  | .all => callP sc "all"
  | .isi t => isiP sc (tyS t)
  | .rev => revP
  | .sl _ _ => fun _ => none

section
variable {X : Cx} {K : Frag} {mA : Env → Sto → DL.R (List Vl)} {ts : List TE} {e : Expr} {es : List Expr} {o : Op}
abbrev mOp (o : Op) (mA : Env → Sto → DL.R (List Vl)) : Env → Sto → DL.R Rv := fun ρ S => (mA ρ S).bind fun vs ρ1 S1 => lift (prim o vs S1) ρ1 S1
/-- both: as a value, as a test -/
def Both (X : Cx) (e : Expr) (m : Env → Sto → DL.R Rv) : Prop := PE X e (TEv X.K m) ∧ PT X e (TTv X.K m)
theorem both_of {m : Env → Sto → DL.R Rv} (P : PE X e (TEv X.K m)) (he : ∀ whole, isTrue e X.env whole = (do let v ← whole; standAt e.pos; holding [v] (truthy v))) : Both X e m := ⟨P, pt_of P he⟩
theorem both_bin {op : Operator} {r2 : R2} (hp : binP op e = some es) (hE : PEs X es ts) (ho : OpR X (binaryOp op) r2) (hc : Chn X.K mA ts)
    (hv : ∀ σ g H S ρ us vs r Q, prim o us S = some r → Rel X.K g H S ρ σ → ROs X.K g H us vs → Post X.K g H S ρ σ r Q → rd2 r2 vs H Q) : Both X e (mOp o mA) := by
  unfold binP at hp
  split at hp
  · rename_i a o' b pos
    split at hp
    · rename_i eo
      subst eo
      cases hp
      cases hE with
      | cons h1 hE =>
        cases hE with
        | cons h2 hE =>
          cases hE
          have P : PE X (.BinOp a o' b pos) (TEv X.K (mOp o mA)) := imE (pe_op ho h1 h2) (op_im (rd := rd2 r2) hc hv)
          exact ⟨P, pt_of P fun _ => rfl⟩
    · cases hp
  · cases hp
theorem both_cmp {op : CmpOp} {r2 : R2} (hp : cmpP op e = some es) (hE : PEs X es ts) (ho : OpR X (compareOp op) r2) (hc : Chn X.K mA ts) (n1 : op ≠ .In) (n2 : op ≠ .NotIn)
    (hv : ∀ σ g H S ρ us vs r Q, prim o us S = some r → Rel X.K g H S ρ σ → ROs X.K g H us vs → Post X.K g H S ρ σ r Q → rd2 r2 vs H Q) : Both X e (mOp o mA) := by
  unfold cmpP at hp
  split at hp
  · rename_i a o' b pos
    split at hp
    · rename_i eo
      subst eo
      cases hp
      cases hE with
      | cons h1 hE =>
        cases hE with
        | cons h2 hE =>
          cases hE
          exact ⟨imE (pe_cmpR ho h1 h2 (nomark _ n1 n2)) (op_im (rd := rd2 r2) hc hv), imT (pt_cmpR ho h1 h2 (nomark _ n1 n2)) (tt_im (op_im (rd := rd2 r2) hc hv))⟩
    · cases hp
  · cases hp
theorem both_non {op : CmpOp} {r1 : V → Hp → VK → Prop} (hp : nonP op e = some es) (hE : PEs X es ts) (hc : Chn X.K mA ts)
    (hPC : ∀ {a : Expr} {ta : TE} {j pos'}, PE X a ta → PC X op a (.Constant .none j pos') (tUn r1 ta)) (n1 : op ≠ .In) (n2 : op ≠ .NotIn)
    (hv : ∀ σ g H S ρ us vs r Q, prim o us S = some r → Rel X.K g H S ρ σ → ROs X.K g H us vs → Post X.K g H S ρ σ r Q → rd1 r1 vs H Q) : Both X e (mOp o mA) := by
  unfold nonP at hp
  split at hp
  · rename_i a o' j p' pos
    split at hp
    · rename_i eo
      subst eo
      cases hp
      cases hE with
      | cons h1 hE =>
        cases hE
        exact ⟨imE (pe_cmp (hPC h1) (nobehind _ n1 n2)) (op_im (rd := rd1 r1) hc hv), imT (pt_cmp (hPC h1) (nobehind _ n1 n2)) (tt_im (op_im (rd := rd1 r1) hc hv))⟩
    · cases hp
  · cases hp
theorem both_ix (hp : ixP e = some es) (hE : PEs X es ts) (hc : Chn X.K mA ts)
    (hv : ∀ σ g H S ρ us vs r Q, prim o us S = some r → Rel X.K g H S ρ σ → ROs X.K g H us vs → Post X.K g H S ρ σ r Q → rd2 (rIx X.K) vs H Q) : Both X e (mOp o mA) := by
  unfold ixP at hp
  split at hp
  · rename_i a b pos
    split at hp
    · rename_i hs
      cases hp
      cases hE with
      | cons h1 hE =>
        cases hE with
        | cons h2 hE =>
          cases hE
          have pl : PlainIx b := fun o i => by cases b <;> first | rfl | cases hs
          have P : PE X (.Subscript a b pos) (TEv X.K (mOp o mA)) := imE (pe_ix ix_seq h1 h2 pl) (op_im (rd := rd2 (rIx X.K)) hc hv)
          exact ⟨P, pt_of P fun _ => rfl⟩
    · cases hp
  · cases hp
theorem both_call {c : Cc} {f : Str} {id : String} {rd : List V → Hp → VK → Prop} (F : Fits c X) (hp : callP c.sc f e = some es) (hE : PEs X es ts) (hr : CallR X (.builtin id) rd) (hm : X.mg f = none) (hb : bootBuiltins f = some (.builtin id)) (hn : f ≠ "__name__") (hd : (f == ("__debug__" : Str)) = false) (hc : Chn X.K mA ts)
    (hv : ∀ σ g H S ρ us vs r Q, prim o us S = some r → Rel X.K g H S ρ σ → ROs X.K g H us vs → Post X.K g H S ρ σ r Q → rd vs H Q) : Both X e (mOp o mA) := by
  unfold callP at hp
  split at hp
  · rename_i x p a pos
    split at hp
    · rename_i hs
      obtain ⟨rfl, h1, h2⟩ := hs
      cases hp
      cases hE with
      | cons h3 hE =>
        cases hE
        have P : PE X (.Call (.Name x p) [a] [] pos) (TEv X.K (mOp o mA)) := imE (pe_callB hr (F.glob h1) hm hb (pa_cons h3 pa_nil (star_ok h2)) hn hd (star_ok h2) rfl) (op_im (rd := rd) hc hv)
        exact ⟨P, pt_of P fun _ => rfl⟩
    · cases hp
  · cases hp
theorem both_callTy {c : Cc} {f : Str} {id : String} {rd : List V → Hp → VK → Prop} (F : Fits c X) (hp : callP c.sc f e = some es) (hE : PEs X es ts) (hr : CallR X (.type id) rd) (hm : X.mg f = none) (hb : bootBuiltins f = some (.type id)) (hn : f ≠ "__name__") (hd : (f == ("__debug__" : Str)) = false) (hc : Chn X.K mA ts)
    (hv : ∀ σ g H S ρ us vs r Q, prim o us S = some r → Rel X.K g H S ρ σ → ROs X.K g H us vs → Post X.K g H S ρ σ r Q → rd vs H Q) : Both X e (mOp o mA) := by
  unfold callP at hp
  split at hp
  · rename_i x p a pos
    split at hp
    · rename_i hs
      obtain ⟨rfl, h1, h2⟩ := hs
      cases hp
      cases hE with
      | cons h3 hE =>
        cases hE
        have P : PE X (.Call (.Name x p) [a] [] pos) (TEv X.K (mOp o mA)) := imE (pe_callTy hr (F.glob h1) hm hb (pa_cons h3 pa_nil (star_ok h2)) hn hd (star_ok h2) rfl) (op_im (rd := rd) hc hv)
        exact ⟨P, pt_of P fun _ => rfl⟩
    · cases hp
  · cases hp
end
theorem un_vL {K : Frag} {o : Op} {f1 : D → Option Rv} {rd : List V → Hp → VK → Prop} (ho : ∀ us S, prim o us S = un f1 us)
    (hp : ∀ {σ g H S ρ a x r Q}, f1 a = some r → Rel K g H S ρ σ → RO K g H (.d a) x → Post K g H S ρ σ r Q → rd [x] H Q) :
    ∀ σ g H S ρ us vs r Q, prim o us S = some r → Rel K g H S ρ σ → ROs K g H us vs → Post K g H S ρ σ r Q → rd vs H Q := fun σ g H S ρ us vs r Q e R ro P => by
  rw [ho] at e
  unfold un at e
  split at e
  · obtain ⟨x, t, rfl, h1, h3⟩ := ro
    have h3 : t = [] := h3
    subst h3
    exact hp e R h1 P
  · cases e
theorem len_v {K : Frag} : ∀ σ g H S ρ us vs r Q, prim .len us S = some r → Rel K g H S ρ σ → ROs K g H us vs → Post K g H S ρ σ r Q → (∃ x n, vs = [x] ∧ LenV K x H n ∧ Q (.int n) H) := fun σ g H S ρ us vs r Q e R ro P => by
  cases us with
  | nil => cases e
  | cons u us =>
    cases us with
    | cons w us => cases u <;> cases e
    | nil =>
      obtain ⟨x, t, rfl, h1, h3⟩ := ro
      have h3 : t = [] := h3
      subst h3
      exact p_len e R h1 P
theorem ix_v {K : Frag} : ∀ σ g H S ρ us vs r Q, prim .ix us S = some r → Rel K g H S ρ σ → ROs K g H us vs → Post K g H S ρ σ r Q → rd2 (rIx K) vs H Q := fun σ g H S ρ us vs r Q e R ro P => by
  unfold prim at e
  simp only at e
  split at e
  · obtain ⟨x, t, rfl, h1, y, t2, rfl, h2, h3⟩ := ro
    have h3 : t2 = [] := h3
    subst h3
    exact p_ix e R h1 h2 P
  · rename_i n i
    obtain ⟨x, t, rfl, h1, y, t2, rfl, h2, h3⟩ := ro
    have h3 : t2 = [] := h3
    subst h3
    split at e
    · rename_i xs hs
      cases hi : L2.atI xs i with
      | none => rw [hi] at e; cases e
      | some u =>
        rw [hi] at e
        cases e
        exact p_ixH hs hi R h1 h2 P
    · cases e
  · cases e
theorem p_rev {K : Frag} {g : Gh} {H : Hp} {S : Sto} {ρ : Env} {σ : St} {Q : VK} {x : V} {r : Rv} {a : D} (h : revD a = some r) (R : Rel K g H S ρ σ) (ha : RO K g H (.d a) x) (P : Post K g H S ρ σ r Q) : ∃ a xs, x = .ref a ∧ SqT K H a xs ∧ ∀ p, H p = none → Q (.ref p) (upd H p (.tup xs.reverse)) := by
  unfold revD at h
  split at h
  · split at h
    · cases h
      obtain ⟨p, vs, e, t, q⟩ := ha.tup
      exact ⟨p, vs, e, t.sq, fun z hz => P.tup R q.rev hz⟩
    · cases h
  · cases h
theorem soundOp {G : Gls} {F : Fns} {k : Nat} {c : Cc} {X : Cx} (Gd : Good G F k c X) {o : Op} {e : Expr} {es : List Expr} {ts : List TE} {mA : Env → Sto → DL.R (List Vl)} (hp : parts c.sc o e = some es) (hE : PEs X es ts) (hc : Chn X.K mA ts) : Both X e (mOp o mA) := by
  have hu := Gd.units
  have Ft := Gd.toFits
  cases o with
  | add => exact both_bin hp hE o_add hc (bin_v (fun _ _ => rfl) p_add)
  | sub => exact both_bin hp hE op_sub hc (bin_v (fun _ _ => rfl) p_sub)
  | mul => exact both_bin hp hE o_mul hc (bin_v (fun _ _ => rfl) p_mul)
  | fdiv => exact both_bin hp hE op_fdivW hc (bin_v (fun _ _ => rfl) p_fdiv)
  | mod => exact both_bin hp hE op_mod hc (bin_v (fun _ _ => rfl) p_mod)
  | pow => exact both_bin hp hE op_pow hc (bin_v (fun _ _ => rfl) p_pow)
  | shl => exact both_bin hp hE op_shl hc (bin_v (fun _ _ => rfl) p_shl)
  | eq => exact both_cmp hp hE (o_eq hu) hc (by decide) (by decide) (bin_v (fun _ _ => rfl) p_eq)
  | ne => exact both_cmp hp hE (o_ne hu) hc (by decide) (by decide) (bin_v (fun _ _ => rfl) p_ne)
  | lt => exact both_cmp hp hE op_lt hc (by decide) (by decide) (bin_v (fun _ _ => rfl) p_lt)
  | le => exact both_cmp hp hE op_le hc (by decide) (by decide) (bin_v (fun _ _ => rfl) p_le)
  | gt => exact both_cmp hp hE op_gt hc (by decide) (by decide) (bin_v (fun _ _ => rfl) p_gt)
  | ge => exact both_cmp hp hE op_ge hc (by decide) (by decide) (bin_v (fun _ _ => rfl) p_ge)
  | isN => exact both_non (r1 := fun x H Q => Q (.bl (decide (x = .non))) H) hp hE hc (fun h => pc_isN h) (by decide) (by decide) (un_v (fun _ _ => rfl) fun e R h P => by cases e; show _ ; rw [h.isNon]; exact P.bl R)
  | notN => exact both_non (r1 := fun x H Q => Q (.bl (!decide (x = .non))) H) hp hE hc (fun h => pc_notN h) (by decide) (by decide) (un_v (fun _ _ => rfl) fun e R h P => by cases e; show _ ; rw [h.isNon]; exact P.bl R)
  | ix => exact both_ix hp hE hc ix_v
  | len => exact both_call Ft hp hE call_len (Gd.blt _ (by decide)) PySem.boot_len (by decide) (by decide) hc len_v
  | int => exact both_callTy Ft hp hE call_int1 (Gd.blt _ (by decide)) PyProof.Rows.boot_int (by decide) (by decide) hc (un_vL (fun _ _ => rfl) fun e R h P => p_int e R h P)
  | tuple => exact both_callTy Ft hp hE call_tuple_of (Gd.blt _ (by decide)) PyProof.Rows.boot_tuple (by decide) (by decide) hc (un_vL (fun _ _ => rfl) fun e R h P => p_tuple e R h P)
  | list => exact both_callTy Ft hp hE call_list_of (Gd.blt _ (by decide)) PyProof.Rows.boot_list (by decide) (by decide) hc (un_vL (fun _ _ => rfl) fun e R h P => p_list e R h P)
  | all => exact both_call Ft hp hE (cr_all Ft.calm) (Gd.blt _ (by decide)) (by decide +kernel) (by decide) (by decide) hc (un_vL (fun _ _ => rfl) fun e R h P => p_all e R h P)
  | rev =>
    have hp : revP e = some es := hp
    unfold revP at hp
    split at hp
    · split at hp
      · rename_i ei
        subst ei
        cases hp
        cases hE with
        | cons h1 hE =>
          cases hE
          exact both_of (imE (pe_revT h1) (op_im (rd := rd1 fun x H Q => ∃ a xs, x = .ref a ∧ SqT X.K H a xs ∧ ∀ p, H p = none → Q (.ref p) (upd H p (.tup xs.reverse))) hc (un_v (fun _ _ => rfl) fun e R h P => p_rev e R h P))) fun _ => rfl
      · cases hp
    · cases hp
  | sl lo hi => cases hp
  | neg =>
    have hp : negP e = some es := hp
    unfold negP at hp
    split at hp
    · rename_i a pos
      cases hp
      cases hE with
      | cons h1 hE =>
        cases hE
        exact both_of (imE (pe_un un_neg h1) (op_im (rd := rd1 _) hc (un_v (fun _ _ => rfl) p_neg))) fun _ => rfl
    · cases hp
  | isi t =>
    have hp : isiP c.sc (tyS t) e = some es := hp
    unfold isiP at hp
    split at hp
    · rename_i x p a y p2 pos
      split at hp
      · rename_i hs
        obtain ⟨rfl, rfl, h1, h2, h3⟩ := hs
        cases hp
        cases hE with
        | cons h4 hE =>
          cases hE
          have hty : ∃ u : Value, bootBuiltins (tyS t) = some u ∧ RelV (.ty t.nm) u := by cases t <;> exact ⟨_, by decide +kernel, rfl⟩
          obtain ⟨u, hb, hu'⟩ := hty
          have hty : ∀ p2, PE X (.Name (tyS t) p2) (tC (.ty t.nm)) := fun p2 => pe_bltn (Ft.glob h2) (Gd.blt _ (by cases t <;> decide)) hb hu' (by cases t <;> decide) (by cases t <;> decide)
          exact both_of (imE (pe_callB call_isi (Ft.glob h1) (Gd.blt _ (by decide)) PyProof.Rows.boot_isinstance (pa_cons h4 (pa_cons (hty _) pa_nil rfl) (star_ok h3)) (by decide) (by decide) (star_ok h3) rfl)
              (op_im (rd := fun vs H Q => rIsi X.K (vs ++ [.ty t.nm]) H Q) hc (un_vL (fun _ _ => rfl) fun e R h P => by cases e; exact p_isi R h P))) fun _ => rfl
      · cases hp
    · cases hp
end DL

end

section
set_option Elab.async false
set_option linter.all false
set_option autoImplicit false
set_option maxHeartbeats 1000000
/-! DL12: names, calls. -/
namespace DL
open PySem L2

section
variable {K : Frag} {g : Gh} {H : Hp} {S : Sto} {ρ : Env} {σ : St}
theorem set_same {α : Type} {l : List α} {i : Nat} {x : α} (h : l[i]? = some x) : l.set i x = l := by
  apply List.ext_getElem?
  intro j
  by_cases hj : i = j
  · subst hj
    rw [List.getElem?_set_self (List.getElem?_eq_some_iff.mp h).1, h]
  · rw [List.getElem?_set_ne hj]
theorem Rel.grab {i : Nat} {u : Vl} {ρ' : Env} (R : Rel K g H S ρ σ) (h : grab ρ i = some (u, ρ')) : ∃ v g', σ[i]? = some (some v) ∧ Ext g H g' H ∧ Rel K g' H S ρ' σ ∧ RV K g' H u v := by
  unfold DL.grab at h
  split at h
  · rename_i r er
    obtain ⟨v, h1, h2⟩ := R.slot i r er
    cases r with
    | v x =>
      simp only [Rv.fz, Option.some.injEq, Prod.mk.injEq] at h
      obtain ⟨rfl, rfl⟩ := h
      refine ⟨v, g, h1, Ext.refl _ _, ?_, h2⟩
      rw [set_same er]; exact R
    | own xs =>
      cases q : (Rv.own xs).fz with
      | none => rw [q] at h; cases h
      | some w =>
        rw [q] at h
        simp only [Option.some.injEq, Prod.mk.injEq] at h
        obtain ⟨rfl, rfl⟩ := h
        obtain ⟨ds, q1, rfl⟩ := Rv.fz_own q
        obtain ⟨a, vs, rfl, b1, b2, b3, b4, b5⟩ := h2
        have hil := (List.getElem?_eq_some_iff.mp er).1
        -- the slot forgotten
        have R1 : Rel K g H S (ρ.set i none) σ := by
          refine R.less (by rw [List.length_set]; exact R.len) fun j r e => ?_
          by_cases hj : i = j
          · subst hj; rw [List.getElem?_set_self hil] at e; cases e
          · rw [List.getElem?_set_ne hj] at e; exact ⟨e, rfl⟩
        have ap : Apart (ρ.set i none) σ (.ref a) := fun j ys e1 e2 => by
          by_cases hj : i = j
          · subst hj; rw [List.getElem?_set_self hil] at e1; cases e1
          · rw [List.getElem?_set_ne hj] at e1
            exact R.inj i j xs ys _ hj er e1 h1 e2
        obtain ⟨X2, R2⟩ := R1.freeze b1 b4 b5 ap
        have rv : RV K (g.frz a) H (.d (.lst ds)) (.ref a) := by
          show RD K _ H (.lst ds) (.ref a)
          unfold RD
          exact ⟨a, vs, rfl, ⟨.inr rfl, b1⟩, RDs.mono X2.fz X2.eq _ _ (RVs.datas q1 b2)⟩
        refine ⟨.ref a, g.frz a, h1, X2, ?_, rv⟩
        have R3 := R2.set (i := i) rv
        rw [List.set_set, set_same h1] at R3
        exact R3
  · cases h

/-! ### a call -/
def callPr (g : Gh) (H : Hp) (ρ : Env) (σ : St) : Addr → HO → Prop := fun b o => g.Pr b o ∨ (H b = some o ∧ ∃ (i : Nat) (ys : List Vl), ρ[i]? = some (some (.own ys)) ∧ σ[i]? = some (some (.ref b)))
theorem Rel.toCall (R : Rel K g H S ρ σ) : Rel K (g.with (callPr g H ρ σ)) H S [] [] := by
  have R0 : Rel K g H S [] [] := R.less rfl fun j r e => by simp at e
  have own : ∀ {b : Addr} {i : Nat} {ys : List Vl}, ρ[i]? = some (some (.own ys)) → σ[i]? = some (some (.ref b)) → ¬ g.fz b ∧ b ∉ g.io := fun {b i ys} e1 e2 => by
    obtain ⟨v, q1, a, vs, ea, _, _, q3, q4, _⟩ := R.slot i _ e1
    rw [e2] at q1
    have q1 := Option.some.inj (Option.some.inj q1)
    rw [← q1] at ea
    have ea := V.ref.inj ea
    subst ea
    exact ⟨q3, q4⟩
  refine R0.with (fun b o h => ?_) (fun b hb o h => ?_) fun b o h i ys e => by simp at e
  · rcases h with h | ⟨h1, i, ys, e1, e2⟩
    · exact R.prt b o h
    · exact ⟨h1, (own e1 e2).1⟩
  · rcases h with h | ⟨h1, i, ys, e1, e2⟩
    · exact (R.apart h).2.2.1 hb
    · exact (own e1 e2).2 hb
theorem Rel.fromCall {g' : Gh} {H' : Hp} {S' : Sto} {r : Rv} {v : V} (R : Rel K g H S ρ σ) (X : Ext (g.with (callPr g H ρ σ)) H g' H') (R' : Rel K g' H' S' [] []) (h : SlotOk K g' H' r v) :
    Ext g H (g'.with g.Pr) H' ∧ Rel K (g'.with g.Pr) H' S' ρ σ ∧ RR K (g'.with g.Pr) H' ρ σ r v := by
  have X1 : Ext g H (g'.with g.Pr) H' := ⟨rfl, X.fz, X.eq, X.io⟩
  have hp : ∀ b o, g.Pr b o → g'.Pr b o := fun b o h => by rw [X.pr]; exact .inl h
  have R1 : Rel K (g'.with g.Pr) H' S' [] [] := R'.unprotect hp
  have x2 : Ex g' H' (g'.with g.Pr) H' := ⟨fun _ h => h, fun _ _ => rfl, List.prefix_refl _⟩
  have held : ∀ {a : Addr} {i : Nat} {ys : List Vl} {vs : List V}, ρ[i]? = some (some (.own ys)) → σ[i]? = some (some (.ref a)) → H a = some (.lst vs) → g'.Pr a (.lst vs) := fun {a i ys vs} e1 e2 e3 => by
    rw [X.pr]; exact .inr ⟨e3, i, ys, e1, e2⟩
  refine ⟨X1, ⟨R.len, fun i r e => ?_, R.inj, R1.iol, R1.ion, R1.sto, R1.fzt, R1.prt⟩, ?_, fun xs e => ?_⟩
  · obtain ⟨w, q1, q2⟩ := R.slot i r e
    refine ⟨w, q1, ?_⟩
    cases r with
    | v x => exact RV.mono X1 q2
    | own ys =>
      obtain ⟨a, vs, rfl, b1, b2, b3, b4, b5⟩ := q2
      obtain ⟨c1, c2, c3, _⟩ := R'.apart (held e q1 b1)
      exact ⟨a, vs, rfl, c1, b2.mono X1, c2, c3, b5⟩
  · cases r with
    | v x => exact RV.monoE x2 h
    | own ys =>
      refine OwnAt.with h fun a ea o hq => ?_
      obtain ⟨b, vs, eb, _, _, _, _, q⟩ := h
      rw [ea] at eb
      have eb := V.ref.inj eb
      subst eb
      exact q o (hp a o hq)
  · subst e
    intro i ys e1 e2
    obtain ⟨b, vs, eb, _, _, _, _, q⟩ := h
    subst eb
    obtain ⟨w, q1, a, us, ea, b1, _⟩ := R.slot i _ e1
    rw [e2] at q1
    have q1 := Option.some.inj (Option.some.inj q1)
    rw [← q1] at ea
    have ea := V.ref.inj ea
    subst ea
    exact q _ (held e1 e2 b1)
end
theorem call_im {X : Cx} {K : Frag} {F : List Vl → Sto → Option (Rv × Sto)} {mL : Env → Sto → DL.R (List Vl)} : ∀ σ H Q, TEv K (fun ρ S => (mL ρ S).bind fun vs ρ1 S1 => match F vs S1 with
    | some (r, S2) => .ok r ρ1 S2
    | none => .no) σ H Q → tCall (spD K F) [] E0 (TLv K mL) σ H Q := fun σ H Q ⟨g, ρ, S, r, ρ', S', R, e, q⟩ => by
  obtain ⟨us, ρ1, S1, e1, e2⟩ := bindEq e
  refine ⟨g, ρ, S, us, ρ1, S1, R, e1, fun g1 H1 vs X1 R1 rv => ?_⟩
  show spD K F (vs ++ []) H1 Q E0
  rw [List.append_nil]
  cases hf : F us S1 with
  | none => rw [hf] at e2; cases e2
  | some p =>
    obtain ⟨r2, S2⟩ := p
    rw [hf] at e2
    cases e2
    refine ⟨_, _, us, _, _, R1.toCall, RVs.monoE (g := g1) (g' := g1.with (callPr g1 H1 _ σ)) (H := H1) ⟨fun _ h => h, fun _ _ => rfl, List.prefix_refl _⟩ rv, hf, fun g2 H2 v X2 R2 h => ?_⟩
    obtain ⟨X3, R3, rr⟩ := R1.fromCall X2 R2 h
    exact q _ H2 v (X1.trans X3) R3 rr
end DL

end

section
set_option Elab.async false
set_option linter.all false
set_option autoImplicit false
set_option maxHeartbeats 2000000
/-! DL13: the text held against the small syntax; expressions are sound. -/
namespace DL
open PySem L2

def notSet : Expr → Bool
  | .Set _ _ _ => false
  | _ => true
def rngP (sc : Scope) : Expr → Option Expr
  | .Call (.Name f _) [x] [] _ => if f = "range" ∧ isGlob sc f = true ∧ notStar x = true then some x else none
  | _ => none
theorem rngP_eq {sc : Scope} {x a : Expr} (h : rngP sc x = some a) : ∃ p pos, x = .Call (.Name "range" p) [a] [] pos ∧ isGlob sc "range" = true ∧ notStar a = true := by
  unfold rngP at h
  split at h
  · split at h
    · rename_i hs
      obtain ⟨rfl, h1, h2⟩ := hs
      cases h
      exact ⟨_, _, rfl, h1, h2⟩
    · cases h
  · cases h
def zipP (sc : Scope) : Expr → Option (Expr × Expr)
  | .Call (.Name f _) [x, y] [] _ => if f = "zip" ∧ isGlob sc f = true ∧ notStar x = true ∧ notStar y = true then some (x, y) else none
  | _ => none
theorem zipP_eq {sc : Scope} {x a b : Expr} (h : zipP sc x = some (a, b)) : ∃ p pos, x = .Call (.Name "zip" p) [a, b] [] pos ∧ isGlob sc "zip" = true ∧ notStar a = true ∧ notStar b = true := by
  unfold zipP at h
  split at h
  · split at h
    · rename_i hs
      obtain ⟨rfl, h1, h2⟩ := hs
      cases h
      exact ⟨_, _, rfl, h1, h2⟩
    · cases h
  · cases h
def gdP (sc : Scope) (y : Str) : Expr → Option Expr
  | .Subscript (.Name x _) i _ => if x = y ∧ isGlob sc x = true ∧ okNm x = true ∧ notSlice i = true then some i else none
  | _ => none
theorem gdP_eq {sc : Scope} {y : Str} {x i : Expr} (h : gdP sc y x = some i) : ∃ p pos, x = .Subscript (.Name y p) i pos ∧ isGlob sc y = true ∧ okNm y = true ∧ notSlice i = true := by
  unfold gdP at h
  split at h
  · split at h
    · rename_i hs
      obtain ⟨rfl, h1, h2⟩ := hs
      cases h
      exact ⟨_, _, rfl, h1, h2⟩
    · cases h
  · cases h
def ginP (sc : Scope) (neg : Bool) (y : Str) : Expr → Option Expr
  | .Compare i [o] [.Name x _] _ => if o = cond neg .NotIn .In ∧ x = y ∧ isGlob sc x = true ∧ okNm x = true then some i else none
  | _ => none
theorem ginP_eq {sc : Scope} {neg : Bool} {y : Str} {x i : Expr} (h : ginP sc neg y x = some i) : ∃ p pos, x = .Compare i [cond neg .NotIn .In] [.Name y p] pos ∧ isGlob sc y = true ∧ okNm y = true := by
  unfold ginP at h
  split at h
  · split at h
    · rename_i hs
      obtain ⟨rfl, rfl, h1, h2⟩ := hs
      cases h
      exact ⟨_, _, rfl, h1, h2⟩
    · cases h
  · cases h
def glenP (sc : Scope) (y : Str) : Expr → Bool
  | .Call (.Name f _) [.Name x _] [] _ => decide (f = "len" ∧ isGlob sc f = true ∧ x = y ∧ isGlob sc x = true ∧ okNm x = true)
  | _ => false
theorem glenP_eq {sc : Scope} {y : Str} {x : Expr} (h : glenP sc y x = true) : ∃ p q pos, x = .Call (.Name "len" p) [.Name y q] [] pos ∧ isGlob sc "len" = true ∧ isGlob sc y = true ∧ okNm y = true := by
  unfold glenP at h
  split at h
  · obtain ⟨rfl, h1, rfl, h2, h3⟩ := of_decide_eq_true h
    exact ⟨_, _, _, rfl, h1, h2, h3⟩
  · cases h
def isTup : Expr → Bool
  | .Tuple _ _ _ => true
  | _ => false
def chkC : D → Const → Bool
  | .non, .none => true
  | .bl b, .bool d => b == d
  | .int i, .int j => decide (i = j)
  | .str x, .str y => decide (x = y) && PyData.strOk x
  | _, _ => false
def slP (lo hi : Bool) : Expr → Option (List Expr)
  | .Subscript a (.Slice l h none _) _ => match lo, hi, l, h with
    | false, false, none, none => some [a]
    | true, false, some x, none => some [a, x]
    | false, true, none, some y => some [a, y]
    | true, true, some x, some y => some [a, x, y]
    | _, _, _, _ => none
  | _ => none
def allE : AL → Bool
  | .nil => true
  | .e _ as => allE as
  | .pk _ _ => false
def tailE : AL → Bool
  | .nil => true
  | .e _ as => allE as
  | .pk _ as => allE as
def isSl : Op → Bool
  | .sl _ _ => true
  | _ => false
def opP (sc : Scope) : Op → Expr → Option (List Expr)
  | .sl lo hi => slP lo hi
  | o => parts sc o
/-- no conditional expression -/
def tst : E → Bool
  | .ite _ _ _ => false
  | _ => true
def Cc.blk (c : Cc) (scope : Scope) : Cc := { c with sc := relS scope c.sc, fn := fun x => scope.names.lookup x == some .cell }
def ownN (N : List Str) (own : List Nat) : List (Str × Nat) := own.map fun i => (N.getD i "", i)
def chkB (c : Cc) (scope : Scope) (own : List Nat) (tg : TG) : Bool := blkC c.N c.sc scope (ownN c.N own) && (slots tg).all fun j => own.contains j
mutual
def chkE (c : Cc) : E → Expr → Bool
  | .var i, .Name x _ => chkV c i x
  | .glob y, .Name x _ => decide (x = y) && isGlob c.sc x && okNm x
  | .gd y e, x => match gdP c.sc y x with
    | some i => chkE c e i
    | none => false
  | .gin neg y e, x => match ginP c.sc neg y x with
    | some i => chkE c e i
    | none => false
  | .glen y, x => glenP c.sc y x
  | .cst d, .Constant k _ _ => chkC d k
  | .op o as, e => match opP c.sc o e with
    | some es => chkA c as es && (!isSl o || tailE as)
    | none => false
  | .and a b, .BoolOp .And (x :: y :: rest) p => tst a && tst b && chkE c a x && (match rest with
    | [] => chkE c b y
    | z :: zs => chkE c b (.BoolOp .And (y :: z :: zs) p))
  | .or a b, .BoolOp .Or (x :: y :: rest) p => tst a && tst b && chkE c a x && (match rest with
    | [] => chkE c b y
    | z :: zs => chkE c b (.BoolOp .Or (y :: z :: zs) p))
  | .not a, .UnaryOp .Not x _ => tst a && chkE c a x
  | .ite t a b, .IfExp x y z _ => tst t && chkE c t x && chkE c a y && chkE c b z
  | .tup es, .Tuple xs _ _ => chkL c es xs && decide (xs.length ≤ 1000)
  | .lst es, .List xs _ => chkL c es xs && decide (xs.length ≤ 1000)
  | .newL es, .List xs _ => chkL c es xs && decide (xs.length ≤ 1000)
  | .call f es, .Call (.Name x _) xs [] _ => decide (c.nm f = some x) && isGlob c.sc x && okNm x && chkL c es xs
  | .comp tg it elt own, .ListComp x [⟨t, i, [], ia⟩] scope _ => decide (ia = 0) && chkB c scope own tg && chkI c t it i && chkT (c.blk scope) tg t && chkE (c.blk scope) elt x
  | .compIf tg it d elt own, .ListComp x [⟨t, i, [y], ia⟩] scope _ => decide (ia = 0) && chkB c scope own tg && chkI c t it i && chkT (c.blk scope) tg t && tst d && chkE (c.blk scope) d y && chkE (c.blk scope) elt x
  | .newC tg it elt own, .ListComp x [⟨t, i, [], ia⟩] scope _ => decide (ia = 0) && chkB c scope own tg && chkI c t it i && chkT (c.blk scope) tg t && chkE (c.blk scope) elt x
  | _, _ => false
def chkA (c : Cc) : AL → List Expr → Bool
  | .nil, [] => true
  | .e x as, y :: es => chkE c x y && chkA c as es
  | .pk i as, .Name x _ :: es => chkV c i x && chkA c as es
  | _, _ => false
def chkL (c : Cc) : EL → List Expr → Bool
  | .nil, [] => true
  | .cons x xs, y :: ys => chkE c x y && notStar y && chkL c xs ys
  | _, _ => false
def chkI (c : Cc) (t : Expr) : IT → Expr → Bool
  | .seq e, x => chkE c e x && notSet x
  | .rng e, x => match rngP c.sc x with
    | some a => chkE c e a
    | none => false
  | .zip a b, x => match zipP c.sc x with
    | some (y, z) => isTup t && chkE c a y && chkE c b z
    | none => false
end

theorem chkV_ok {c : Cc} {X : Cx} {i : Nat} {x : Str} {pos : Pos} (F : Fits c X) (h : chkV c i x = true) : PE X (.Name x pos) (tVar i) := by
  unfold chkV at h
  simp only [Bool.and_eq_true, decide_eq_true_eq, Bool.or_eq_true] at h
  obtain ⟨⟨h1, h2⟩, h3⟩ := h
  unfold okNm at h3
  simp only [Bool.and_eq_true, Bool.not_eq_true'] at h3
  refine pe_var (by rw [F.N]; exact h1) ?_ h3.1 h3.2
  rw [F.sc]
  rcases h2 with (z | z) | z
  · exact .inl (isLocal_eq z)
  · exact .inr (.inl (isCell_eq z))
  · exact .inr (.inr (isFree_eq z))
theorem Good.blk {G : Gls} {F : Fns} {k : Nat} {c : Cc} {X : Cx} (Gd : Good G F k c X) (scope : Scope) (s : Shared) (H : Hp) (C : Addr) (cl : List (Str × Addr)) (fp : List Addr) :
    Good G F k (c.blk scope) (X.blk s H scope (compEnvC scope cl C X.env) fp) := by
  refine ⟨⟨Gd.N, ?_, rfl, Gd.nd, Gd.calm⟩, Gd.room, Gd.blt, Gd.gl, Gd.dg, Gd.df⟩
  show relabel scope X.env = relS scope c.sc
  rw [← Gd.sc]
  rfl
theorem ownN_snd (N : List Str) (own : List Nat) : (ownN N own).map (·.2) = own := by
  unfold ownN
  rw [List.map_map]
  exact List.map_id own
theorem chkB_ok {c : Cc} {X : Cx} {scope : Scope} {own : List Nat} {tg : TG} (F : Fits c X) (h : chkB c scope own tg = true) : BlkOk X.N X.env.scope scope (ownN c.N own) ∧ ∀ j ∈ slots tg, j ∈ own := by
  unfold chkB at h
  simp only [Bool.and_eq_true, List.all_eq_true, List.contains_iff_mem] at h
  refine ⟨?_, h.2⟩
  rw [F.N, F.sc]
  exact blkOk_by h.1
theorem noSet {e : Expr} {env : PySem.Env} (h : notSet e = true) : ∀ x, foldedSetIterable e env x = pure x := fun x => by
  cases e <;> first | rfl | cases h

section
variable {X : Cx} {m m2 : Env → Sto → DL.R Rv}
def mAnd (m m2 : Env → Sto → DL.R Rv) : Env → Sto → DL.R Rv := fun ρ S => (m ρ S).bind fun r ρ1 S1 => match r with
    | .v (.d (.bl true)) => m2 ρ1 S1
    | .v (.d (.bl false)) => .ok (vD (.bl false)) ρ1 S1
    | _ => .no
def mOr (m m2 : Env → Sto → DL.R Rv) : Env → Sto → DL.R Rv := fun ρ S => (m ρ S).bind fun r ρ1 S1 => match r with
    | .v (.d (.bl true)) => .ok (vD (.bl true)) ρ1 S1
    | .v (.d (.bl false)) => m2 ρ1 S1
    | _ => .no
theorem RR.bl {K : Frag} {g : Gh} {H : Hp} {ρ : Env} {σ : St} {b : Bool} {v : V} (h : RR K g H ρ σ (.v (.d (.bl b))) v) : v = .bl b := by
  have h : RD K g.fz H (.bl b) v := h.1
  unfold RD at h; exact h
theorem and_im {K : Frag} : ∀ σ H Q, TEv K (mAnd m m2) σ H Q → tAndV (TEv K m) (TEv K m2) σ H Q := fun σ H Q ⟨g, ρ, S, r, ρ', S', R, e, q⟩ => by
  obtain ⟨r1, ρ1, S1, e1, e2⟩ := bindEq e
  refine ⟨g, ρ, S, r1, ρ1, S1, R, e1, fun g1 H1 v X1 R1 rr => ?_⟩
  split at e2
  · refine ⟨true, rr.bl, ?_⟩
    rw [if_pos rfl]
    exact ⟨g1, ρ1, S1, r, ρ', S', R1, e2, fun g2 H2 w X2 R2 r2 => q g2 H2 w (X1.trans X2) R2 r2⟩
  · refine ⟨false, rr.bl, ?_⟩
    rw [if_neg Bool.false_ne_true]
    cases e2
    exact q g1 H1 _ X1 R1 ⟨by show RD K _ _ _ _; unfold RD; rfl, fun xs e => nomatch e⟩
  · cases e2
theorem or_im {K : Frag} : ∀ σ H Q, TEv K (mOr m m2) σ H Q → tOrV (TEv K m) (TEv K m2) σ H Q := fun σ H Q ⟨g, ρ, S, r, ρ', S', R, e, q⟩ => by
  obtain ⟨r1, ρ1, S1, e1, e2⟩ := bindEq e
  refine ⟨g, ρ, S, r1, ρ1, S1, R, e1, fun g1 H1 v X1 R1 rr => ?_⟩
  split at e2
  · refine ⟨true, rr.bl, ?_⟩
    rw [if_pos rfl]
    cases e2
    exact q g1 H1 _ X1 R1 ⟨by show RD K _ _ _ _; unfold RD; rfl, fun xs e => nomatch e⟩
  · refine ⟨false, rr.bl, ?_⟩
    rw [if_neg Bool.false_ne_true]
    exact ⟨g1, ρ1, S1, r, ρ', S', R1, e2, fun g2 H2 w X2 R2 r2 => q g2 H2 w (X1.trans X2) R2 r2⟩
  · cases e2
theorem andT_im {K : Frag} : ∀ σ H Q, TTv K (mAnd m m2) σ H Q → tAnd (TTv K m) (TTv K m2) σ H Q := fun σ H Q ⟨g, ρ, S, b, ρ', S', R, e, q⟩ => by
  obtain ⟨r1, ρ1, S1, e1, e2⟩ := bindEq e
  split at e2
  · refine ⟨g, ρ, S, true, ρ1, S1, R, e1, fun g1 H1 X1 R1 => ?_⟩
    show if true = true then _ else _
    rw [if_pos rfl]
    exact ⟨g1, ρ1, S1, b, ρ', S', R1, e2, fun g2 H2 X2 R2 => q g2 H2 (X1.trans X2) R2⟩
  · refine ⟨g, ρ, S, false, ρ1, S1, R, e1, fun g1 H1 X1 R1 => ?_⟩
    show if false = true then _ else _
    rw [if_neg Bool.false_ne_true]
    cases e2
    exact q g1 H1 X1 R1
  · cases e2
theorem orT_im {K : Frag} : ∀ σ H Q, TTv K (mOr m m2) σ H Q → tOr (TTv K m) (TTv K m2) σ H Q := fun σ H Q ⟨g, ρ, S, b, ρ', S', R, e, q⟩ => by
  obtain ⟨r1, ρ1, S1, e1, e2⟩ := bindEq e
  split at e2
  · refine ⟨g, ρ, S, true, ρ1, S1, R, e1, fun g1 H1 X1 R1 => ?_⟩
    show if true = true then _ else _
    rw [if_pos rfl]
    cases e2
    exact q g1 H1 X1 R1
  · refine ⟨g, ρ, S, false, ρ1, S1, R, e1, fun g1 H1 X1 R1 => ?_⟩
    show if false = true then _ else _
    rw [if_neg Bool.false_ne_true]
    exact ⟨g1, ρ1, S1, b, ρ', S', R1, e2, fun g2 H2 X2 R2 => q g2 H2 (X1.trans X2) R2⟩
  · cases e2
theorem pw_of {op : PySem.BoolOp} {xs : List Expr} {p : Pos} {t : TT} (h : PT X (.BoolOp op xs p) t) : PW X (.BoolOp op xs p) t := ⟨fun wh pins s σ H Q I q => h.run pins s σ H Q I q⟩
end
end DL

end

section
set_option Elab.async false
set_option linter.all false
set_option autoImplicit false
set_option maxHeartbeats 4000000
/-! DL14: expressions are sound. -/
namespace DL
open PySem L2

section
variable {X : Cx} {K : Frag}
theorem cst_im {d : D} {v : V} (h : ∀ fz H, RD K fz H d v) : ∀ σ H Q, TEv K (fun ρ S => .ok (vD d) ρ S) σ H Q → tC v σ H Q := fun σ H Q ⟨g, ρ, S, r, ρ', S', R, e, q⟩ => by
  cases e
  exact q g H v (Ext.refl _ _) R ⟨h _ _, fun xs e => nomatch e⟩
theorem tup_im {mL : Env → Sto → DL.R (List Vl)} (hl : ∀ ρ S us ρ' S', mL ρ S = .ok us ρ' S' → us.length ≤ 1000) : ∀ σ H Q, TEv K (fun ρ S => (mL ρ S).bind fun vs ρ1 S1 => match datas vs with
    | some ds => .ok (vD (.tup ds)) ρ1 S1
    | none => .no) σ H Q → tTup (TLv K mL) σ H Q := fun σ H Q ⟨g, ρ, S, r, ρ', S', R, e, q⟩ => by
  obtain ⟨us, ρ1, S1, e1, e2⟩ := bindEq e
  refine ⟨g, ρ, S, us, ρ1, S1, R, e1, fun g1 H1 vs X1 R1 rv => ⟨?_, fun p hp => ?_⟩⟩
  · rw [rv.length]; exact Nat.le_trans (hl _ _ _ _ _ e1) (by decide)
  · split at e2
    · rename_i ds hd
      cases e2
      exact (Post.of X1 q).tup R1 (RVs.datas hd rv) hp
    · cases e2
theorem lst_im {mL : Env → Sto → DL.R (List Vl)} (hl : ∀ ρ S us ρ' S', mL ρ S = .ok us ρ' S' → us.length ≤ 1000) : ∀ σ H Q, TEv K (fun ρ S => (mL ρ S).bind fun vs ρ1 S1 => .ok (.own vs) ρ1 S1) σ H Q → tLst (TLv K mL) σ H Q := fun σ H Q ⟨g, ρ, S, r, ρ', S', R, e, q⟩ => by
  obtain ⟨us, ρ1, S1, e1, e2⟩ := bindEq e
  cases e2
  refine ⟨g, ρ, S, us, _, _, R, e1, fun g1 H1 vs X1 R1 rv => ⟨?_, fun p hp => ?_⟩⟩
  · rw [rv.length]; exact Nat.le_trans (hl _ _ _ _ _ e1) (by decide)
  · exact (Post.of X1 q).own R1 rv hp
/-- an object of the store is laid -/
theorem Rel.store {g : Gh} {H : Hp} {S : Sto} {ρ : Env} {σ : St} {D : Addr} {xs : List Vl} {vs : List V} (R : Rel K g H S ρ σ) (hD : H D = some (.lst vs)) (hf : ¬ g.fz D) (hi : D ∉ g.io) (ha : Apart ρ σ (.ref D)) (hp : ∀ u, ¬ g.Pr D u) (rv : RVs K g H xs vs) :
    Ext g H { g with io := g.io ++ [D] } H ∧ Rel K { g with io := g.io ++ [D] } H (S ++ [.lst xs]) ρ σ ∧ RV K { g with io := g.io ++ [D] } H (.h S.length) (.ref D) := by
  have X1 : Ext g H { g with io := g.io ++ [D] } H := ⟨rfl, fun _ h => h, fun _ _ => rfl, List.prefix_append _ _⟩
  have e0 : (g.io ++ [D])[S.length]? = some D := by rw [← R.iol]; simp
  refine ⟨X1, ⟨R.len, fun i r e => ?_, R.inj, ?_, ?_, fun n a mo e1 e2 => ?_, R.fzt, R.prt⟩, D, e0, rfl⟩
  · obtain ⟨v, q1, q2⟩ := R.slot i r e
    refine ⟨v, q1, ?_⟩
    cases r with
    | v x => exact RV.mono X1 q2
    | own ys =>
      obtain ⟨a, us, rfl, b1, b2, b3, b4, b5⟩ := q2
      refine ⟨a, us, rfl, b1, b2.mono X1, b3, ?_, b5⟩
      simp only [List.mem_append, List.mem_singleton, not_or]
      exact ⟨b4, fun z => ha i ys e (by rw [← z]; exact q1)⟩
  · simp [R.iol]
  · refine List.nodup_append.mpr ⟨R.ion, by simp, fun a h1 b h2 z => ?_⟩
    rw [List.mem_singleton.mp h2] at z
    subst z
    exact hi h1
  · by_cases hn : n < S.length
    · have h1 : g.io[n]? = some a := by rw [List.getElem?_append_left (by rw [R.iol]; exact hn)] at e1; exact e1
      have h2 : S[n]? = some mo := by rw [List.getElem?_append_left hn] at e2; exact e2
      obtain ⟨q1, q2, q3⟩ := R.sto n a mo h1 h2
      exact ⟨q1.ext X1 rfl, q2, q3⟩
    · have hl : n = S.length := by
        have := (List.getElem?_eq_some_iff.mp e2).1
        simp at this
        omega
      subst hl
      rw [e0] at e1; cases e1
      have e2 : (S ++ [MO.lst xs])[S.length]? = some mo := e2
      rw [List.getElem?_append_right (Nat.le_refl _)] at e2
      simp at e2
      subst e2
      exact ⟨⟨vs, hD, rv.mono X1⟩, hf, hp⟩
theorem newL_im {mL : Env → Sto → DL.R (List Vl)} (hl : ∀ ρ S us ρ' S', mL ρ S = .ok us ρ' S' → us.length ≤ 1000) : ∀ σ H Q, TEv K (fun ρ S => (mL ρ S).bind fun vs ρ1 S1 => .ok (.v (.h S1.length)) ρ1 (S1 ++ [.lst vs])) σ H Q → tLst (TLv K mL) σ H Q := fun σ H Q ⟨g, ρ, S, r, ρ', S', R, e, q⟩ => by
  obtain ⟨us, ρ1, S1, e1, e2⟩ := bindEq e
  cases e2
  refine ⟨g, ρ, S, us, _, _, R, e1, fun g1 H1 vs X1 R1 rv => ⟨?_, fun p hp => ?_⟩⟩
  · rw [rv.length]; exact Nat.le_trans (hl _ _ _ _ _ e1) (by decide)
  · obtain ⟨X2, R2⟩ := R1.laidO (o := .lst vs) hp
    obtain ⟨⟨a, ws, ea, q1, q2, q3, q4, q5⟩, q6⟩ := R1.fresh_own hp rv
    have ea := V.ref.inj ea
    subst ea
    obtain ⟨X3, R3, rh⟩ := R2.store q1 q3 q4 q6 q5 q2
    exact q _ _ _ ((X1.trans X2).trans X3) R3 ⟨rh, fun xs e => nomatch e⟩
theorem evL_len {G : Gls} {F : Fns} : ∀ {es : EL} {c : Cc} {xs : List Expr} {ρ : Env} {S : Sto} {us : List Vl} {ρ' : Env} {S' : Sto}, chkL c es xs = true → evL G F es ρ S = .ok us ρ' S' → us.length = xs.length
  | .nil, c, [], ρ, S, us, ρ', S', _, e => by unfold evL at e; cases e; rfl
  | .nil, c, _ :: _, ρ, S, us, ρ', S', h, _ => by simp [chkL] at h
  | .cons x es, c, [], ρ, S, us, ρ', S', h, _ => by simp [chkL] at h
  | .cons x es, c, y :: ys, ρ, S, us, ρ', S', h, e => by
    simp only [chkL, Bool.and_eq_true] at h
    unfold evL at e
    obtain ⟨v, ρ1, S1, e1, e2⟩ := bindEq e
    obtain ⟨vs, ρ2, S2, e3, e4⟩ := bindEq e2
    cases e4
    simp [evL_len h.2 e3]
theorem chkL_star : ∀ {es : EL} {c : Cc} {xs : List Expr}, chkL c es xs = true → allNotStar xs = true
  | .nil, c, [], _ => rfl
  | .nil, c, _ :: _, h => by simp [chkL] at h
  | .cons x es, c, [], h => by simp [chkL] at h
  | .cons x es, c, y :: ys, h => by
    simp only [chkL, Bool.and_eq_true] at h
    have := chkL_star h.2
    unfold allNotStar at *
    simp [h.1.2, this]
/-- slices -/
def tInt (t : TE) (u : TA) : TA := fun σ H Q => t σ H fun x H1 => ∃ i, x = .int i ∧ u σ H1 fun xs H2 => Q (.int i :: xs) H2
def rdS (K : Frag) (lo hi : Bool) : List V → Hp → VK → Prop := fun vs H Q => match lo, hi, vs with
  | false, false, [x] => rSl' K x none none H Q
  | true, false, [x, .int i] => rSl' K x (some i) none H Q
  | false, true, [x, .int j] => rSl' K x none (some j) H Q
  | true, true, [x, .int i, .int j] => rSl' K x (some i) (some j) H Q
  | _, _, _ => False
def ChP (K : Frag) (P : List Vl → Prop) (m : Env → Sto → DL.R (List Vl)) (t : TA) : Prop :=
  ∀ (σ : St) (H : Hp) (Q : List V → Hp → Prop) (g : Gh) (ρ : Env) (S : Sto) (us : List Vl) (ρ' : Env) (S' : Sto), P us → Rel K g H S ρ σ → m ρ S = .ok us ρ' S' →
    (∀ g' H' vs, Ext g H g' H' → Rel K g' H' S' ρ' σ → ROs K g' H' us vs → Q vs H') → t σ H Q
def intsV : List Vl → Prop
  | [] => True
  | .d (.int _) :: r => intsV r
  | _ :: _ => False
theorem chp_nil : ChP K intsV (fun ρ S => .ok [] ρ S) tNil := fun σ H Q g ρ S us ρ' S' _ R e q => by
  cases e
  exact q g H [] (Ext.refl _ _) R rfl
theorem chp_int {m1 : Env → Sto → DL.R Vl} {m2 : Env → Sto → DL.R (List Vl)} {t : TA} (h : ChP K intsV m2 t) : ChP K intsV (fun ρ S => (m1 ρ S).bind fun v ρ1 S1 => (m2 ρ1 S1).bind fun vs ρ2 S2 => .ok (v :: vs) ρ2 S2) (tInt (TVl K m1) t) := fun σ H Q g ρ S us ρ' S' hi R e q => by
  obtain ⟨v, ρ1, S1, e2, e3⟩ := bindEq e
  obtain ⟨vs, ρ2, S2, e4, e5⟩ := bindEq e3
  cases e5
  refine ⟨g, ρ, S, v, ρ1, S1, R, e2, fun g1 H1 x X1 R1 r1 => ?_⟩
  cases v with
  | h n => exact hi.elim
  | scr ns => exact hi.elim
  | d d =>
    cases d with
    | int i =>
      refine ⟨i, (RV.ro r1).int, ?_⟩
      refine h σ H1 _ g1 ρ1 S1 vs _ _ hi R1 e4 fun g2 H2 xs X2 R2 r2 => ?_
      exact q g2 H2 _ (X1.trans X2) R2 ⟨_, xs, rfl, by have := (r1.mono X2).ro; rw [(RV.ro r1).int] at this; exact this, r2⟩
    | _ => exact hi.elim
def tailInts : List Vl → Prop
  | [] => True
  | _ :: r => intsV r
theorem chp_e {m1 : Env → Sto → DL.R Vl} {m2 : Env → Sto → DL.R (List Vl)} {t : TA} (h : ChP K intsV m2 t) : ChP K tailInts (fun ρ S => (m1 ρ S).bind fun v ρ1 S1 => (m2 ρ1 S1).bind fun vs ρ2 S2 => .ok (v :: vs) ρ2 S2) (tCons (TVl K m1) t) := fun σ H Q g ρ S us ρ' S' hi R e q => by
  obtain ⟨v, ρ1, S1, e2, e3⟩ := bindEq e
  obtain ⟨vs, ρ2, S2, e4, e5⟩ := bindEq e3
  cases e5
  refine ⟨g, ρ, S, v, ρ1, S1, R, e2, fun g1 H1 x X1 R1 r1 => ?_⟩
  refine h σ H1 _ g1 ρ1 S1 vs _ _ hi R1 e4 fun g2 H2 xs X2 R2 r2 => ?_
  exact q g2 H2 (x :: xs) (X1.trans X2) R2 ⟨x, xs, rfl, (r1.mono X2).ro, r2⟩
theorem chp_pk {i : Nat} {m2 : Env → Sto → DL.R (List Vl)} {t : TA} (h : ChP K intsV m2 t) : ChP K tailInts (fun ρ S => match ρ[i]? with
    | some (some _) => (m2 ρ S).bind fun vs ρ1 S1 => match peek ρ1 i with
      | some v => .ok (v :: vs) ρ1 S1
      | none => .no
    | _ => .no) (tCons (tVar i) t) := fun σ H Q g ρ S us ρ' S' hi R e q => by
  have e : (match ρ[i]? with
    | some (some _) => (m2 ρ S).bind fun vs ρ1 S1 => match peek ρ1 i with
      | some v => DL.R.ok (v :: vs) ρ1 S1
      | none => .no
    | _ => .no) = DL.R.ok us ρ' S' := e
  split at e
  · rename_i r er
    obtain ⟨vs, ρ1, S1, e1, e2⟩ := bindEq e
    cases hp : DL.peek ρ1 i with
    | none => rw [hp] at e2; cases e2
    | some u =>
      rw [hp] at e2; cases e2
      obtain ⟨v, h1, _⟩ := R.slot i r er
      refine ⟨v, h1, ?_⟩
      refine h σ H _ g ρ S vs _ _ hi R e1 fun g2 H2 xs X2 R2 r2 => ?_
      obtain ⟨v', h3, h4⟩ := R2.peek hp
      rw [h1] at h3
      have h3 := Option.some.inj (Option.some.inj h3)
      subst h3
      exact q g2 H2 (v :: xs) X2 R2 ⟨v, xs, rfl, h4, r2⟩
  · cases e
theorem sl_im {lo hi : Bool} {mA : Env → Sto → DL.R (List Vl)} {t : TA} (h : ChP K tailInts mA t) : ∀ σ H Q, TEv K (mOp (.sl lo hi) mA) σ H Q → t σ H fun vs H1 => rdS K lo hi vs H1 Q := fun σ H Q ⟨g, ρ, S, r, ρ', S', R, e, q⟩ => by
  obtain ⟨us, ρ1, S1, e1, e2⟩ := bindEq e
  obtain ⟨e3, rfl, rfl⟩ := lift_eq e2
  have hi : tailInts us := by
    unfold prim at e3
    simp only at e3
    split at e3 <;> first | trivial | cases e3
  refine h σ H _ g ρ S us _ _ hi R e1 fun g' H' vs X' R' ro => ?_
  have P := Post.of X' q
  unfold prim at e3
  simp only at e3
  split at e3
  · obtain ⟨x, t, rfl, h1, h3⟩ := ro
    have h3 : t = [] := h3
    subst h3
    exact p_sl e3 R' h1 P
  · obtain ⟨x, t, rfl, h1, y, t2, rfl, h2, h3⟩ := ro
    have h3 : t2 = [] := h3
    subst h3
    have e := h2.int
    subst e
    exact p_sl e3 R' h1 P
  · obtain ⟨x, t, rfl, h1, y, t2, rfl, h2, h3⟩ := ro
    have h3 : t2 = [] := h3
    subst h3
    have e := h2.int
    subst e
    exact p_sl e3 R' h1 P
  · obtain ⟨x, t, rfl, h1, y, t2, rfl, h2, z, t3, rfl, h3, h4⟩ := ro
    have h4 : t3 = [] := h4
    subst h4
    have e := h2.int
    subst e
    have e := h3.int
    subst e
    exact p_sl e3 R' h1 P
  · cases e3
end
end DL

end

section
set_option Elab.async false
set_option linter.all false
set_option autoImplicit false
set_option maxHeartbeats 4000000
/-! DL15: expressions are sound. -/
namespace DL
open PySem L2

section
variable {X : Cx}
theorem pe_slv {lo hi : Bool} {e : Expr} {es : List Expr} {ts : List TE} {mA : Env → Sto → DL.R (List Vl)} (hp : slP lo hi e = some es) (t0 : TE) (bs : List (Env → Sto → DL.R Vl)) (hE : PEs X es (t0 :: bs.map (TVl X.K)))
    (hc : ChP X.K tailInts mA (tCons t0 (bs.foldr (fun m t => tInt (TVl X.K m) t) tNil))) : Both X e (mOp (.sl lo hi) mA) := by
  unfold slP at hp
  split at hp
  · rename_i a l h p2 pos
    split at hp
    · cases hp
      cases bs with
      | nil =>
        cases hE with
        | cons h1 _ => exact both_of (imE (pe_slice o_sl h1 po_none po_none) (sl_im hc)) fun _ => rfl
      | cons b bs => cases hE with | cons h1 hE => cases hE
    · cases hp
      cases bs with
      | nil => cases hE with | cons h1 hE => cases hE
      | cons b bs =>
        cases hE with
        | cons h1 hE =>
          cases hE with
          | cons h2 hE =>
            cases bs with
            | nil => exact both_of (imE (pe_slice o_sl h1 (po_some h2) po_none) (sl_im hc)) fun _ => rfl
            | cons b2 bs => cases hE
    · cases hp
      cases bs with
      | nil => cases hE with | cons h1 hE => cases hE
      | cons b bs =>
        cases hE with
        | cons h1 hE =>
          cases hE with
          | cons h2 hE =>
            cases bs with
            | nil => exact both_of (imE (pe_slice o_sl h1 po_none (po_some h2)) (sl_im hc)) fun _ => rfl
            | cons b2 bs => cases hE
    · cases hp
      cases bs with
      | nil => cases hE with | cons h1 hE => cases hE
      | cons b bs =>
        cases hE with
        | cons h1 hE =>
          cases hE with
          | cons h2 hE =>
            cases bs with
            | nil => cases hE
            | cons b2 bs =>
              cases hE with
              | cons h3 hE =>
                cases bs with
                | nil => exact both_of (imE (pe_slice o_sl h1 (po_some h2) (po_some h3)) (sl_im hc)) fun _ => rfl
                | cons b3 bs => cases hE
    · cases hp
  · cases hp
end

section
variable {G : Gls} {F : Fns} {k : Nat}
theorem comp_pe {c : Cc} {X : Cx} (Gd : Good G F k c X) {tg : TG} {own : List Nat} {x t i : Expr} {ifs : List Expr} {scope : Scope} {pos : Pos} {mI : Env → Sto → DL.R (List Vl)} {mB : Env → Sto → DL.R (Option Vl)} {tt : TT} {te : TE}
    (hB : chkB c scope own tg = true) (hT : chkT (c.blk scope) tg t = true) (hI : PI X t i (TIv X.K mI)) (hs : notSet i = true)
    (ht : ∀ (s : Shared) (H : Hp) (C : Addr) (cl : List (Str × Addr)) (fp : List Addr), PTs (X.blk s H scope (compEnvC scope cl C X.env) fp) ifs tt)
    (he : ∀ (s : Shared) (H : Hp) (C : Addr) (cl : List (Str × Addr)) (fp : List Addr), PE (X.blk s H scope (compEnvC scope cl C X.env) fp) x te) (hb : TBv X.K mB tt te) :
    PE X (.ListComp x [⟨t, i, ifs, 0⟩] scope pos) (TEv X.K fun ρ S => (mI ρ S).bind fun xs ρ1 S1 =>
      if noOwn ρ1 own then
        (turns (fun x ρ S => match bindT tg x S (wipe ρ own) with
          | some ρ2 => mB ρ2 S
          | none => .no) xs [] ρ1 S1).bind fun acc ρ2 S2 => .ok (.own acc) (unwipe ρ1 ρ2 own) S2
      else .no) ∧
    PE X (.ListComp x [⟨t, i, ifs, 0⟩] scope pos) (TEv X.K fun ρ S => (mI ρ S).bind fun xs ρ1 S1 =>
      if noOwn ρ1 own then
        (turns (fun x ρ S => match bindT tg x S (wipe ρ own) with
          | some ρ2 => mB ρ2 S
          | none => .no) xs [] ρ1 S1).bind fun acc ρ2 S2 => .ok (.v (.h S2.length)) (unwipe ρ1 ρ2 own) (S2 ++ [.lst acc])
      else .no) := by
  obtain ⟨hB1, hB2⟩ := chkB_ok Gd.toFits hB
  have P := pe_lc (g := TGv X.K tg) (te := te) (pos := pos) Gd.calm Gd.nd hI hB1 (fun s H C cl fp => soundT (Gd.blk scope s H C cl fp).toFits tg t hT) ht he (noSet hs)
  rw [ownN_snd] at P
  refine ⟨imE P fun σ H Q ⟨g, ρ, S, r, ρ', S', R, e, q⟩ => ?_, imE P fun σ H Q ⟨g, ρ, S, r, ρ', S', R, e, q⟩ => ?_⟩
  · obtain ⟨xs, ρ1, S1, e1, e2⟩ := bindEq e
    split at e2
    · rename_i hn
      obtain ⟨acc, ρ2, S2, e3, e4⟩ := bindEq e2
      cases e4
      refine comp_im hb hB2 R e1 hn e3 fun g' H' D vs X' R' h1 h2 h3 h4 h5 h6 => ?_
      exact q g' H' _ X' R' ⟨⟨D, vs, rfl, h1, h2, h3, h4, h5⟩, fun _ _ => h6⟩
    · cases e2
  · obtain ⟨xs, ρ1, S1, e1, e2⟩ := bindEq e
    split at e2
    · rename_i hn
      obtain ⟨acc, ρ2, S2, e3, e4⟩ := bindEq e2
      cases e4
      refine comp_im hb hB2 R e1 hn e3 fun g' H' D vs X' R' h1 h2 h3 h4 h5 h6 => ?_
      obtain ⟨X2, R2, rh⟩ := R'.store h1 h3 h4 h6 h5 h2
      exact q _ H' _ (X'.trans X2) R2 ⟨rh, fun xs e => nomatch e⟩
    · cases e2
theorem chkI_set {c : Cc} {t : Expr} {it : IT} {i : Expr} (h : chkI c t it i = true) : notSet i = true := by
  cases it with
  | seq e => simp only [chkI, Bool.and_eq_true] at h; exact h.2
  | rng e =>
    simp only [chkI] at h
    split at h
    · rename_i a hp
      obtain ⟨p, pos, rfl, _⟩ := rngP_eq hp
      rfl
    · cases h
  | zip a b =>
    simp only [chkI] at h
    split at h
    · rename_i y z hp
      obtain ⟨p, pos, rfl, _⟩ := zipP_eq hp
      rfl
    · cases h

mutual
theorem soundE {c : Cc} {X : Cx} (Gd : Good G F k c X) : ∀ (e : E) (x : Expr), chkE c e x = true → PE X x (TEv X.K (ev G F e)) ∧ (tst e = true → PT X x (TTv X.K (ev G F e)))
  | .var i, x, h => by
    cases x <;> first | (simp [chkE] at h; done) | skip
    rename_i y pos
    simp only [chkE] at h
    have P : PE X (.Name y pos) (TEv X.K (ev G F (.var i))) := imE (chkV_ok Gd.toFits h) fun σ H Q ⟨g, ρ, S, r, ρ', S', R, e, q⟩ => by
      unfold ev at e
      split at e
      · rename_i u ρ1 hg
        cases e
        obtain ⟨v, g', h1, h2, h3, h4⟩ := R.grab hg
        exact ⟨v, h1, q g' H v h2 h3 ⟨h4, fun xs e => nomatch e⟩⟩
      · cases e
    exact ⟨P, fun _ => pt_of P fun _ => rfl⟩
  | .glob y, x, h => by
    cases x <;> first | (simp [chkE] at h; done) | skip
    rename_i z pos
    simp only [chkE, Bool.and_eq_true, decide_eq_true_eq] at h
    obtain ⟨⟨rfl, h1⟩, h2⟩ := h
    unfold okNm at h2
    simp only [Bool.and_eq_true, Bool.not_eq_true'] at h2
    have P : PE X (.Name z pos) (TEv X.K (ev G F (.glob z))) := by
      cases hg : G.c z with
      | none => exact ⟨fun pins s σ H Q I ⟨g, ρ, S, r, ρ', S', R, e, q⟩ => by unfold ev at e; rw [hg] at e; cases e⟩
      | some d =>
        obtain ⟨u, v, q1, q2, q3⟩ := Gd.gl z d hg
        refine imE (pe_glob (Gd.glob h1) q1 q2 h2.1) fun σ H Q ⟨g, ρ, S, r, ρ', S', R, e, q⟩ => ?_
        unfold ev at e; rw [hg] at e
        cases e
        exact q g H v (Ext.refl _ _) R ⟨q3 _ _, fun xs e => nomatch e⟩
    exact ⟨P, fun _ => pt_of P fun _ => rfl⟩
  | .gd y e, x, h => by
    simp only [chkE] at h
    split at h
    · rename_i i hp
      obtain ⟨p, pos, rfl, h1, h2, h3⟩ := gdP_eq hp
      unfold okNm at h2
      simp only [Bool.and_eq_true, Bool.not_eq_true'] at h2
      have pl : PlainIx i := fun o z => by cases i <;> first | rfl | cases h3
      have P : PE X (.Subscript (.Name y p) i pos) (TEv X.K (ev G F (.gd y e))) := by
        have e0 : (ev G F (.gd y e)) = fun ρ S => (fzR (ev G F e ρ S)).bind fun v ρ1 S1 => lift (gdGet (G.d y) v) ρ1 S1 := by funext ρ S; first | (rw [ev]; done) | (rw [ev]; rfl)
        rw [e0]
        cases hg : G.d y with
        | none =>
          exact ⟨fun pins s σ H Q I ⟨g, ρ, S, r, ρ', S', R, e, q⟩ => by
            obtain ⟨v, ρ1, S1, e1, e2⟩ := bindEq e
            cases e2⟩
        | some kvs =>
          obtain ⟨a, q1, q2⟩ := Gd.dg y kvs hg
          refine imE (pe_ix ix_kd (pe_glob (v := .ref a) (Gd.glob h1) q1 rfl h2.1) (fz_pe (soundE Gd e i h).1) pl) fun σ H Q ⟨g, ρ, S, r, ρ', S', R, e, q⟩ => ?_
          obtain ⟨v, ρ1, S1, e1, e2⟩ := bindEq e
          refine ⟨g, ρ, S, v, ρ1, S1, R, e1, fun g1 H1 w X1 R1 rr => ?_⟩
          cases v with
          | d x =>
            cases x with
            | str k =>
              have rr : RD X.K g1.fz H1 (.str k) w := rr
              unfold RD at rr
              cases hl : lookD kvs k with
              | none => simp [gdGet, hl] at e2
              | some d =>
                simp only [gdGet, hl, Option.map_some, lift_some] at e2
                cases e2
                exact ⟨a, kvs, k, d, rfl, rr.1, q2, hl, fun v hv => q g1 H1 v X1 R1 ⟨hv _ _, fun xs e => nomatch e⟩⟩
            | _ => cases e2
          | _ => cases e2
      exact ⟨P, fun _ => pt_of P fun _ => rfl⟩
    · cases h
  | .gin neg y e, x, h => by
    simp only [chkE] at h
    split at h
    · rename_i i hp
      obtain ⟨p, pos, rfl, h1, h2⟩ := ginP_eq hp
      unfold okNm at h2
      simp only [Bool.and_eq_true, Bool.not_eq_true'] at h2
      have e0 : (ev G F (.gin neg y e)) = fun ρ S => (fzR (ev G F e ρ S)).bind fun v ρ1 S1 => lift (gdIn neg (G.d y) v) ρ1 S1 := by funext ρ S; first | (rw [ev]; done) | (rw [ev]; rfl)
      rw [e0]
      cases hg : G.d y with
      | none =>
        refine ⟨⟨fun pins s σ H Q I ⟨g, ρ, S, r, ρ', S', R, e, q⟩ => ?_⟩, fun _ => ⟨fun pins s σ H Q I ⟨g, ρ, S, r, ρ', S', R, e, q⟩ => ?_⟩⟩
        · obtain ⟨v, ρ1, S1, e1, e2⟩ := bindEq e
          cases e2
        · obtain ⟨v, ρ1, S1, e1, e2⟩ := bindEq e
          cases e2
      | some kvs =>
        obtain ⟨a, q1, q2⟩ := Gd.dg y kvs hg
        have PN : PE X (.Name y p) (tC (.ref a)) := pe_glob (v := .ref a) (Gd.glob h1) q1 rfl h2.1
        have PI := fz_pe (soundE Gd e i h).1
        have im : ∀ σ H Q, TEv X.K (fun ρ S => (fzR (ev G F e ρ S)).bind fun v ρ1 S1 => lift (gdIn neg (some kvs) v) ρ1 S1) σ H Q → tOp (rKDin X neg) (TVl X.K fun ρ S => fzR (ev G F e ρ S)) (tC (.ref a)) σ H Q := fun σ H Q ⟨g, ρ, S, r, ρ', S', R, e, q⟩ => by
          obtain ⟨v, ρ1, S1, e1, e2⟩ := bindEq e
          refine ⟨g, ρ, S, v, ρ1, S1, R, e1, fun g1 H1 w X1 R1 rr => ?_⟩
          cases v with
          | d x =>
            cases x with
            | str k =>
              have rr : RD X.K g1.fz H1 (.str k) w := rr
              unfold RD at rr
              simp only [gdIn, lift_some] at e2
              cases e2
              exact ⟨a, kvs, k, rfl, rr.1, q2, q g1 H1 _ X1 R1 ⟨by show RD X.K _ _ _ _; unfold RD; rfl, fun xs e => nomatch e⟩⟩
            | _ => cases e2
          | _ => cases e2
        have PCx : PC X (cond neg .NotIn .In) i (.Name y p) (tOp (rKDin X neg) (TVl X.K fun ρ S => fzR (ev G F e ρ S)) (tC (.ref a))) := by
          cases neg
          · exact pc_kdin PI PN
          · exact pc_kdnin PI PN
        have nb : behindInMarks (cond neg CmpOp.NotIn .In) (.Name y p) = false := by cases neg <;> rfl
        exact ⟨imE (pe_cmp PCx nb) im, fun _ => imT (pt_cmp PCx nb) (tt_im im)⟩
    · cases h
  | .glen y, x, h => by
    simp only [chkE] at h
    obtain ⟨p, q0, pos, rfl, h0, h1, h2⟩ := glenP_eq h
    unfold okNm at h2
    simp only [Bool.and_eq_true, Bool.not_eq_true'] at h2
    have P : PE X (.Call (.Name "len" p) [.Name y q0] [] pos) (TEv X.K (ev G F (.glen y))) := by
      have e0 : (ev G F (.glen y)) = fun ρ S => lift (gdLen (G.d y)) ρ S := by funext ρ S; first | (rw [ev]; done) | (rw [ev]; rfl)
      rw [e0]
      cases hg : G.d y with
      | none => exact ⟨fun pins s σ H Q I ⟨g, ρ, S, r, ρ', S', R, e, q⟩ => by cases e⟩
      | some kvs =>
        obtain ⟨a, q1, q2⟩ := Gd.dg y kvs hg
        refine imE (pe_callB call_kdlen (Gd.glob h0) (Gd.blt _ (by decide)) PySem.boot_len (pa_cons (pe_glob (v := .ref a) (Gd.glob h1) q1 rfl h2.1) pa_nil rfl) (by decide) (by decide) rfl rfl) fun σ H Q ⟨g, ρ, S, r, ρ', S', R, e, q⟩ => ?_
        simp only [gdLen, lift_some] at e
        cases e
        exact ⟨a, kvs, rfl, q2, q g H _ (Ext.refl _ _) R ⟨by show RD X.K _ _ _ _; unfold RD; rfl, fun xs e => nomatch e⟩⟩
    exact ⟨P, fun _ => pt_of P fun _ => rfl⟩
  | .cst d, x, h => by
    cases x <;> first | (simp [chkE] at h; done) | skip
    rename_i kk j pos
    simp only [chkE] at h
    have P : PE X (.Constant kk j pos) (TEv X.K (ev G F (.cst d))) := by
      have e0 : (ev G F (.cst d)) = fun ρ S => .ok (vD d) ρ S := by funext ρ S; first | (rw [ev]; done) | (rw [ev]; rfl)
      rw [e0]
      cases d <;> cases kk <;> first | (simp [chkC] at h; done) | skip
      · exact imE pe_non (cst_im fun fz H => by unfold RD; rfl)
      · simp only [chkC, beq_iff_eq] at h; subst h; exact imE pe_bl (cst_im fun fz H => by unfold RD; rfl)
      · simp only [chkC, decide_eq_true_eq] at h; subst h; exact imE pe_int (cst_im fun fz H => by unfold RD; rfl)
      · simp only [chkC, Bool.and_eq_true, decide_eq_true_eq] at h; obtain ⟨rfl, h⟩ := h; exact imE pe_str (cst_im fun fz H => by unfold RD; exact ⟨rfl, h⟩)
    exact ⟨P, fun _ => pt_of P fun _ => rfl⟩
  | .op o as, x, h => by
    simp only [chkE] at h
    split at h
    · rename_i es hp
      simp only [Bool.and_eq_true, Bool.or_eq_true, Bool.not_eq_true'] at h
      have e0 : (ev G F (.op o as)) = mOp o (evA G F as) := by funext ρ S; first | (rw [ev]; done) | (rw [ev]; rfl)
      rw [e0]
      by_cases hsl : isSl o = true
      · cases o <;> first | (cases hsl; done) | skip
        rename_i lo hi
        have hp : slP lo hi x = some es := hp
        have ht : tailE as = true := by rcases h.2 with z | z; cases z; exact z
        have hb : Both X x (mOp (.sl lo hi) (evA G F as)) := by
          cases as with
          | nil => cases es with
            | nil => unfold slP at hp; split at hp <;> first | (cases hp; done) | (split at hp <;> cases hp)
            | cons a b => simp [chkA] at h
          | e x0 as =>
            cases es with
            | nil => simp [chkA] at h
            | cons y es =>
              simp only [chkA, Bool.and_eq_true] at h
              obtain ⟨bs, hE, hc⟩ := soundB Gd as es h.1.2 ht
              have e1 : evA G F (.e x0 as) = fun ρ S => (fzR (ev G F x0 ρ S)).bind fun v ρ1 S1 => (evA G F as ρ1 S1).bind fun vs ρ2 S2 => .ok (v :: vs) ρ2 S2 := by funext ρ S; first | (rw [evA]; done) | (rw [evA]; rfl)
              rw [e1]
              exact pe_slv (ts := []) hp _ bs (.cons (fz_pe (soundE Gd x0 y h.1.1).1) hE) (chp_e hc)
          | pk i0 as =>
            cases es with
            | nil => simp [chkA] at h
            | cons y es =>
              cases y <;> first | (simp [chkA] at h; done) | skip
              simp only [chkA, Bool.and_eq_true] at h
              obtain ⟨bs, hE, hc⟩ := soundB Gd as es h.1.2 ht
              have e1 : evA G F (.pk i0 as) = fun ρ S => match ρ[i0]? with
                | some (some _) => (evA G F as ρ S).bind fun vs ρ1 S1 => match peek ρ1 i0 with
                  | some v => .ok (v :: vs) ρ1 S1
                  | none => .no
                | _ => .no := by funext ρ S; first | (rw [evA]; done) | (rw [evA]; rfl)
              rw [e1]
              exact pe_slv (ts := []) hp _ bs (.cons (chkV_ok Gd.toFits h.1.1) hE) (chp_pk hc)
        exact ⟨hb.1, fun _ => hb.2⟩
      · have hp : parts c.sc o x = some es := by cases o <;> first | exact hp | exact absurd rfl hsl
        obtain ⟨ts, hE, hc⟩ := soundA Gd as es h.1
        have hb := soundOp Gd hp hE hc
        exact ⟨hb.1, fun _ => hb.2⟩
    · cases h
  | .and a b, x, h => by
    have e0 : (ev G F (.and a b)) = mAnd (ev G F a) (ev G F b) := by funext ρ S; unfold ev mAnd; rfl
    rw [e0]
    cases x <;> first | (simp [chkE] at h; done) | skip
    rename_i op vs pos
    cases op <;> first | (simp [chkE] at h; done) | skip
    cases vs with
    | nil => simp [chkE] at h
    | cons y vs =>
      cases vs with
      | nil => simp [chkE] at h
      | cons z rest =>
        simp only [chkE, Bool.and_eq_true] at h
        obtain ⟨⟨⟨t1, t2⟩, h1⟩, h2⟩ := h
        obtain ⟨A1, A2⟩ := soundE Gd a y h1
        have Bq : PE X (.BoolOp .And (z :: rest) pos) (TEv X.K (ev G F b)) ∧ PW X (.BoolOp .And (z :: rest) pos) (TTv X.K (ev G F b)) := by
          cases rest with
          | nil =>
            obtain ⟨B1, B2⟩ := soundE Gd b z h2
            exact ⟨pe_one B1, pw_and1 (B2 t2)⟩
          | cons w ws =>
            obtain ⟨B1, B2⟩ := soundE Gd b (.BoolOp .And (z :: w :: ws) pos) h2
            exact ⟨B1, pw_of (B2 t2)⟩
        exact ⟨imE (pe_and A1 Bq.1) and_im, fun _ => (imW (pw_and (A2 t1) Bq.2) andT_im).pt⟩
  | .or a b, x, h => by
    have e0 : (ev G F (.or a b)) = mOr (ev G F a) (ev G F b) := by funext ρ S; unfold ev mOr; rfl
    rw [e0]
    cases x <;> first | (simp [chkE] at h; done) | skip
    rename_i op vs pos
    cases op <;> first | (simp [chkE] at h; done) | skip
    cases vs with
    | nil => simp [chkE] at h
    | cons y vs =>
      cases vs with
      | nil => simp [chkE] at h
      | cons z rest =>
        simp only [chkE, Bool.and_eq_true] at h
        obtain ⟨⟨⟨t1, t2⟩, h1⟩, h2⟩ := h
        obtain ⟨A1, A2⟩ := soundE Gd a y h1
        have Bq : PE X (.BoolOp .Or (z :: rest) pos) (TEv X.K (ev G F b)) ∧ PW X (.BoolOp .Or (z :: rest) pos) (TTv X.K (ev G F b)) := by
          cases rest with
          | nil =>
            obtain ⟨B1, B2⟩ := soundE Gd b z h2
            exact ⟨pe_one B1, pw_or1 (B2 t2)⟩
          | cons w ws =>
            obtain ⟨B1, B2⟩ := soundE Gd b (.BoolOp .Or (z :: w :: ws) pos) h2
            exact ⟨B1, pw_of (B2 t2)⟩
        exact ⟨imE (pe_or A1 Bq.1) or_im, fun _ => (imW (pw_or (A2 t1) Bq.2) orT_im).pt⟩
  | .not a, x, h => by
    cases x <;> first | (simp [chkE] at h; done) | skip
    rename_i op y pos
    cases op <;> first | (simp [chkE] at h; done) | skip
    simp only [chkE, Bool.and_eq_true] at h
    obtain ⟨A1, A2⟩ := soundE Gd a y h.2
    have A2 := A2 h.1
    refine ⟨imE (pe_not A1) fun σ H Q ⟨g, ρ, S, r, ρ', S', R, e, q⟩ => ?_, fun _ => imT (pt_not A2) fun σ H Q ⟨g, ρ, S, r, ρ', S', R, e, q⟩ => ?_⟩
    · unfold ev at e
      obtain ⟨r1, ρ1, S1, e1, e2⟩ := bindEq e
      refine ⟨g, ρ, S, r1, ρ1, S1, R, e1, fun g1 H1 v X1 R1 rr => ?_⟩
      split at e2
      · rename_i b
        cases e2
        exact ⟨b, rr.bl, q g1 H1 _ X1 R1 ⟨by show RD X.K _ _ _ _; unfold RD; rfl, fun xs e => nomatch e⟩⟩
      · cases e2
    · unfold ev at e
      obtain ⟨r1, ρ1, S1, e1, e2⟩ := bindEq e
      split at e2
      · rename_i b
        cases e2
        exact ⟨g, ρ, S, b, _, _, R, e1, fun g1 H1 X1 R1 => q g1 H1 X1 R1⟩
      · cases e2
  | .ite t a b, x, h => by
    cases x <;> first | (simp [chkE] at h; done) | skip
    rename_i y1 y2 y3 pos
    simp only [chkE, Bool.and_eq_true] at h
    obtain ⟨⟨⟨t1, h1⟩, h2⟩, h3⟩ := h
    obtain ⟨_, T2⟩ := soundE Gd t y1 h1
    obtain ⟨A1, _⟩ := soundE Gd a y2 h2
    obtain ⟨B1, _⟩ := soundE Gd b y3 h3
    refine ⟨imE (pe_ifExp (T2 t1) A1 B1) fun σ H Q ⟨g, ρ, S, r, ρ', S', R, e, q⟩ => ?_, fun z => nomatch z⟩
    unfold ev at e
    obtain ⟨r1, ρ1, S1, e1, e2⟩ := bindEq e
    split at e2
    · refine ⟨g, ρ, S, true, ρ1, S1, R, e1, fun g1 H1 X1 R1 => ?_⟩
      show if true = true then _ else _
      rw [if_pos rfl]
      exact ⟨g1, ρ1, S1, r, ρ', S', R1, e2, fun g2 H2 w X2 R2 r2 => q g2 H2 w (X1.trans X2) R2 r2⟩
    · refine ⟨g, ρ, S, false, ρ1, S1, R, e1, fun g1 H1 X1 R1 => ?_⟩
      show if false = true then _ else _
      rw [if_neg Bool.false_ne_true]
      exact ⟨g1, ρ1, S1, r, ρ', S', R1, e2, fun g2 H2 w X2 R2 r2 => q g2 H2 w (X1.trans X2) R2 r2⟩
    · cases e2
  | .tup es, x, h => by
    cases x <;> first | (simp [chkE] at h; done) | skip
    rename_i xs kk pos
    simp only [chkE, Bool.and_eq_true, decide_eq_true_eq] at h
    have e0 : (ev G F (.tup es)) = fun ρ S => (evL G F es ρ S).bind fun vs ρ1 S1 => match datas vs with
      | some ds => .ok (vD (.tup ds)) ρ1 S1
      | none => .no := by funext ρ S; first | (rw [ev]; done) | (rw [ev]; rfl)
    rw [e0]
    have P := imE (pe_tup (x1 := kk) (pos := pos) (soundL Gd es xs h.1)) (tup_im fun ρ S us ρ' S' e => by rw [evL_len h.1 e]; exact h.2)
    exact ⟨P, fun _ => pt_of P fun _ => rfl⟩
  | .lst es, x, h => by
    cases x <;> first | (simp [chkE] at h; done) | skip
    rename_i xs pos
    simp only [chkE, Bool.and_eq_true, decide_eq_true_eq] at h
    have e0 : (ev G F (.lst es)) = fun ρ S => (evL G F es ρ S).bind fun vs ρ1 S1 => .ok (.own vs) ρ1 S1 := by funext ρ S; first | (rw [ev]; done) | (rw [ev]; rfl)
    rw [e0]
    have P := imE (pe_lst (pos := pos) (soundL Gd es xs h.1)) (lst_im fun ρ S us ρ' S' e => by rw [evL_len h.1 e]; exact h.2)
    exact ⟨P, fun _ => pt_of P fun _ => rfl⟩
  | .newL es, x, h => by
    cases x <;> first | (simp [chkE] at h; done) | skip
    rename_i xs pos
    simp only [chkE, Bool.and_eq_true, decide_eq_true_eq] at h
    have e0 : (ev G F (.newL es)) = fun ρ S => (evL G F es ρ S).bind fun vs ρ1 S1 => .ok (.v (.h S1.length)) ρ1 (S1 ++ [.lst vs]) := by funext ρ S; first | (rw [ev]; done) | (rw [ev]; rfl)
    rw [e0]
    have P := imE (pe_lst (pos := pos) (soundL Gd es xs h.1)) (newL_im fun ρ S us ρ' S' e => by rw [evL_len h.1 e]; exact h.2)
    exact ⟨P, fun _ => pt_of P fun _ => rfl⟩
  | .call f es, x, h => by
    cases x <;> first | (simp [chkE] at h; done) | skip
    rename_i fx xs ks pos
    cases fx <;> first | (simp [chkE] at h; done) | skip
    cases ks <;> first | (simp [chkE] at h; done) | skip
    rename_i y p
    simp only [chkE, Bool.and_eq_true, decide_eq_true_eq] at h
    obtain ⟨⟨⟨h1, h2⟩, h3⟩, h4⟩ := h
    unfold okNm at h3
    simp only [Bool.and_eq_true, Bool.not_eq_true'] at h3
    obtain ⟨fa, fd, ps, q1, q2, q3, q4⟩ := Gd.df f y h1
    have e0 : (ev G F (.call f es)) = fun ρ S => (evL G F es ρ S).bind fun vs ρ1 S1 => match F f vs S1 with
      | some (r, S2) => .ok r ρ1 S2
      | none => .no := by funext ρ S; first | (rw [ev]; done) | (rw [ev]; rfl)
    rw [e0]
    have L := soundL Gd es xs h4
    have P : PE X (.Call (.Name y p) xs [] pos) (tCall (spD X.K (F f)) [] E0 (TLv X.K (evL G F es))) := by
      cases xs with
      | nil =>
        refine imE (pe_call0 q4 Gd.room (Gd.glob h2) q1 q2 q3 .nil pass0 h3.1) fun σ H Q h => ?_
        obtain ⟨g, ρ, S, us, ρ', S', R, e, q⟩ := h
        cases es with
        | cons a b => simp [chkL] at h4
        | nil =>
          unfold evL at e
          cases e
          exact q g H [] (Ext.refl _ _) R rfl
      | cons x0 xs =>
        have st := chkL_star h4
        unfold allNotStar at st
        simp only [List.all_cons, Bool.and_eq_true] at st
        exact pe_call q4 Gd.room (Gd.glob h2) q1 q2 q3 .nil pass0 L h3.1 (star_ok st.1) (noStars st.2)
    have P := imE P (call_im (X := X))
    exact ⟨P, fun _ => pt_of P fun _ => rfl⟩
  | .comp tg it elt own, x, h => by
    cases x <;> first | (simp [chkE] at h; done) | skip
    rename_i y gs scope pos
    cases gs with
    | nil => simp [chkE] at h
    | cons g0 gs =>
      obtain ⟨t, i, ifs, ia⟩ := g0
      cases gs <;> first | (simp [chkE] at h; done) | skip
      cases ifs <;> first | (simp [chkE] at h; done) | skip
      simp only [chkE, Bool.and_eq_true, decide_eq_true_eq] at h
      obtain ⟨⟨⟨⟨rfl, h1⟩, h2⟩, h3⟩, h4⟩ := h
      have e0 : (ev G F (.comp tg it elt own)) = fun ρ S => (evI G F it ρ S).bind fun xs ρ1 S1 =>
        if noOwn ρ1 own then
          (turns (fun x ρ S => match bindT tg x S (wipe ρ own) with
            | some ρ2 => (fzR (ev G F elt ρ2 S)).bind fun v ρ3 S3 => .ok (some v) ρ3 S3
            | none => .no) xs [] ρ1 S1).bind fun acc ρ2 S2 => .ok (.own acc) (unwipe ρ1 ρ2 own) S2
        else .no := by funext ρ S; first | (rw [ev]; done) | (rw [ev]; rfl)
      rw [e0]
      have P := (comp_pe Gd (pos := pos) h1 h3 (soundI Gd it t i h2) (chkI_set h2) (fun s H C cl fp => pts_nil) (fun s H C cl fp => fz_pe (soundE (Gd.blk scope s H C cl fp) elt y h4).1) tb_plain).1
      exact ⟨P, fun _ => pt_of P fun _ => rfl⟩
  | .compIf tg it d elt own, x, h => by
    cases x <;> first | (simp [chkE] at h; done) | skip
    rename_i y gs scope pos
    cases gs with
    | nil => simp [chkE] at h
    | cons g0 gs =>
      obtain ⟨t, i, ifs, ia⟩ := g0
      cases gs <;> first | (simp [chkE] at h; done) | skip
      cases ifs with
      | nil => simp [chkE] at h
      | cons y0 ifs =>
        cases ifs <;> first | (simp [chkE] at h; done) | skip
        simp only [chkE, Bool.and_eq_true, decide_eq_true_eq] at h
        obtain ⟨⟨⟨⟨⟨⟨rfl, h1⟩, h2⟩, h3⟩, t5⟩, h5⟩, h4⟩ := h
        have e0 : (ev G F (.compIf tg it d elt own)) = fun ρ S => (evI G F it ρ S).bind fun xs ρ1 S1 =>
          if noOwn ρ1 own then
            (turns (fun x ρ S => match bindT tg x S (wipe ρ own) with
              | some ρ2 => (ev G F d ρ2 S).bind fun r ρ3 S3 => match r with
                | .v (.d (.bl true)) => (fzR (ev G F elt ρ3 S3)).bind fun v ρ4 S4 => .ok (some v) ρ4 S4
                | .v (.d (.bl false)) => .ok none ρ3 S3
                | _ => .no
              | none => .no) xs [] ρ1 S1).bind fun acc ρ2 S2 => .ok (.own acc) (unwipe ρ1 ρ2 own) S2
          else .no := by funext ρ S; first | (rw [ev]; done) | (rw [ev]; rfl)
        rw [e0]
        have P := (comp_pe Gd (pos := pos) h1 h3 (soundI Gd it t i h2) (chkI_set h2) (fun s H C cl fp => pts_one ((soundE (Gd.blk scope s H C cl fp) d y0 h5).2 t5)) (fun s H C cl fp => fz_pe (soundE (Gd.blk scope s H C cl fp) elt y h4).1) tb_if).1
        exact ⟨P, fun _ => pt_of P fun _ => rfl⟩
  | .newC tg it elt own, x, h => by
    cases x <;> first | (simp [chkE] at h; done) | skip
    rename_i y gs scope pos
    cases gs with
    | nil => simp [chkE] at h
    | cons g0 gs =>
      obtain ⟨t, i, ifs, ia⟩ := g0
      cases gs <;> first | (simp [chkE] at h; done) | skip
      cases ifs <;> first | (simp [chkE] at h; done) | skip
      simp only [chkE, Bool.and_eq_true, decide_eq_true_eq] at h
      obtain ⟨⟨⟨⟨rfl, h1⟩, h2⟩, h3⟩, h4⟩ := h
      have e0 : (ev G F (.newC tg it elt own)) = fun ρ S => (evI G F it ρ S).bind fun xs ρ1 S1 =>
        if noOwn ρ1 own then
          (turns (fun x ρ S => match bindT tg x S (wipe ρ own) with
            | some ρ2 => (fzR (ev G F elt ρ2 S)).bind fun v ρ3 S3 => .ok (some v) ρ3 S3
            | none => .no) xs [] ρ1 S1).bind fun acc ρ2 S2 => .ok (.v (.h S2.length)) (unwipe ρ1 ρ2 own) (S2 ++ [.lst acc])
        else .no := by funext ρ S; first | (rw [ev]; done) | (rw [ev]; rfl)
      rw [e0]
      have P := (comp_pe Gd (pos := pos) h1 h3 (soundI Gd it t i h2) (chkI_set h2) (fun s H C cl fp => pts_nil) (fun s H C cl fp => fz_pe (soundE (Gd.blk scope s H C cl fp) elt y h4).1) tb_plain).2
      exact ⟨P, fun _ => pt_of P fun _ => rfl⟩
theorem soundA {c : Cc} {X : Cx} (Gd : Good G F k c X) : ∀ (as : AL) (es : List Expr), chkA c as es = true → ∃ ts, PEs X es ts ∧ Chn X.K (evA G F as) ts
  | .nil, es, h => by
    cases es with
    | cons a b => simp [chkA] at h
    | nil => exact ⟨[], .nil, by have e0 : evA G F .nil = fun ρ S => .ok [] ρ S := by { funext ρ S; first | (rw [evA]; done) | (rw [evA]; rfl) }; rw [e0]; exact chn_nil⟩
  | .e x as, es, h => by
    cases es with
    | nil => simp [chkA] at h
    | cons y es =>
      simp only [chkA, Bool.and_eq_true] at h
      obtain ⟨ts, h1, h2⟩ := soundA Gd as es h.2
      refine ⟨_, .cons (fz_pe (soundE Gd x y h.1).1) h1, ?_⟩
      have e0 : evA G F (.e x as) = fun ρ S => (fzR (ev G F x ρ S)).bind fun v ρ1 S1 => (evA G F as ρ1 S1).bind fun vs ρ2 S2 => .ok (v :: vs) ρ2 S2 := by funext ρ S; first | (rw [evA]; done) | (rw [evA]; rfl)
      rw [e0]
      exact chn_e h2
  | .pk i as, es, h => by
    cases es with
    | nil => simp [chkA] at h
    | cons y es =>
      cases y <;> first | (simp [chkA] at h; done) | skip
      simp only [chkA, Bool.and_eq_true] at h
      obtain ⟨ts, h1, h2⟩ := soundA Gd as es h.2
      refine ⟨_, .cons (chkV_ok Gd.toFits h.1) h1, ?_⟩
      have e0 : evA G F (.pk i as) = fun ρ S => match ρ[i]? with
        | some (some _) => (evA G F as ρ S).bind fun vs ρ1 S1 => match peek ρ1 i with
          | some v => .ok (v :: vs) ρ1 S1
          | none => .no
        | _ => .no := by funext ρ S; first | (rw [evA]; done) | (rw [evA]; rfl)
      rw [e0]
      exact chn_pk h2
/-- a slice's bounds -/
theorem soundB {c : Cc} {X : Cx} (Gd : Good G F k c X) : ∀ (as : AL) (es : List Expr), chkA c as es = true → allE as = true → ∃ bs : List (Env → Sto → DL.R Vl), PEs X es (bs.map (TVl X.K)) ∧ ChP X.K intsV (evA G F as) (bs.foldr (fun m t => tInt (TVl X.K m) t) tNil)
  | .nil, es, h, _ => by
    cases es with
    | cons a b => simp [chkA] at h
    | nil => exact ⟨[], .nil, by have e0 : evA G F .nil = fun ρ S => .ok [] ρ S := by { funext ρ S; first | (rw [evA]; done) | (rw [evA]; rfl) }; rw [e0]; exact chp_nil⟩
  | .e x as, es, h, ha => by
    cases es with
    | nil => simp [chkA] at h
    | cons y es =>
      simp only [chkA, Bool.and_eq_true] at h
      obtain ⟨bs, h1, h2⟩ := soundB Gd as es h.2 ha
      refine ⟨(fun ρ S => fzR (ev G F x ρ S)) :: bs, .cons (fz_pe (soundE Gd x y h.1).1) h1, ?_⟩
      have e0 : evA G F (.e x as) = fun ρ S => (fzR (ev G F x ρ S)).bind fun v ρ1 S1 => (evA G F as ρ1 S1).bind fun vs ρ2 S2 => .ok (v :: vs) ρ2 S2 := by funext ρ S; first | (rw [evA]; done) | (rw [evA]; rfl)
      rw [e0]
      exact chp_int h2
  | .pk i as, es, h, ha => by cases ha
theorem soundL {c : Cc} {X : Cx} (Gd : Good G F k c X) : ∀ (es : EL) (xs : List Expr), chkL c es xs = true → PA X xs (TLv X.K (evL G F es))
  | .nil, xs, h => by
    cases xs with
    | cons a b => simp [chkL] at h
    | nil =>
      have e0 : evL G F .nil = fun ρ S => .ok [] ρ S := by funext ρ S; first | (rw [evL]; done) | (rw [evL]; rfl)
      rw [e0]; exact pa_nilv
  | .cons x es, xs, h => by
    cases xs with
    | nil => simp [chkL] at h
    | cons y ys =>
      simp only [chkL, Bool.and_eq_true] at h
      have e0 : evL G F (.cons x es) = fun ρ S => (fzR (ev G F x ρ S)).bind fun v ρ1 S1 => (evL G F es ρ1 S1).bind fun vs ρ2 S2 => .ok (v :: vs) ρ2 S2 := by funext ρ S; first | (rw [evL]; done) | (rw [evL]; rfl)
      rw [e0]
      exact pa_consv (fz_pe (soundE Gd x y h.1.1).1) (soundL Gd es ys h.2) h.1.2
theorem soundI {c : Cc} {X : Cx} (Gd : Good G F k c X) : ∀ (it : IT) (t x : Expr), chkI c t it x = true → PI X t x (TIv X.K (evI G F it))
  | .seq e, t, x, h => by
    simp only [chkI, Bool.and_eq_true] at h
    have e0 : evI G F (.seq e) = fun ρ S => (fzR (ev G F e ρ S)).bind fun v ρ1 S1 => lift (items v S1) ρ1 S1 := by funext ρ S; first | (rw [evI]; done) | (rw [evI]; rfl)
    rw [e0]
    exact pi_seqv (fz_pe (soundE Gd e x h.1).1)
  | .rng e, t, x, h => by
    simp only [chkI] at h
    split at h
    · rename_i a hp
      obtain ⟨p, pos, rfl, h1, h2⟩ := rngP_eq hp
      have e0 : evI G F (.rng e) = fun ρ S => (fzR (ev G F e ρ S)).bind fun v ρ1 S1 => match v with
        | .d (.int n) => if decide (-1000000 ≤ n) && decide (n ≤ 1000000) then .ok (nats n.toNat) ρ1 S1 else .no
        | _ => .no := by funext ρ S; first | (rw [evI]; done) | (rw [evI]; rfl)
      rw [e0]
      exact pi_rngv (Gd.glob h1) (Gd.blt _ (by decide)) h2 (fz_pe (soundE Gd e a h).1)
    · cases h
  | .zip a b, t, x, h => by
    simp only [chkI] at h
    split at h
    · rename_i y z hp
      obtain ⟨p, pos, rfl, h1, h5, h6⟩ := zipP_eq hp
      simp only [Bool.and_eq_true] at h
      obtain ⟨⟨h2, h3⟩, h4⟩ := h
      cases t <;> first | (cases h2; done) | skip
      have e0 : evI G F (.zip a b) = fun ρ S => (fzR (ev G F a ρ S)).bind fun v ρ1 S1 => (fzR (ev G F b ρ1 S1)).bind fun w ρ2 S2 => lift (zipI v w) ρ2 S2 := by funext ρ S; first | (rw [evI]; done) | (rw [evI]; rfl)
      rw [e0]
      exact pi_zipv (Gd.glob h1) (Gd.blt _ (by decide)) (fz_pe (soundE Gd a y h3).1) (fz_pe (soundE Gd b z h4).1) h5 h6
    · cases h
end
end
end DL

end

section
set_option Elab.async false
set_option linter.all false
set_option autoImplicit false
set_option maxHeartbeats 4000000
/-! DL16: statements, the pieces. -/
namespace DL
open PySem L2

def Aft (K : Frag) (g : Gh) (H : Hp) (S' : Sto) (ρ' : Env) (D : Ends) : Fl → Prop
  | .nx => ∀ g' H' σ', Ext g H g' H' → Rel K g' H' S' ρ' σ' → D.nx σ' H'
  | .ct => ∀ g' H' σ', Ext g H g' H' → Rel K g' H' S' ρ' σ' → D.ct σ' H'
  | .bk => ∀ g' H' σ', Ext g H g' H' → Rel K g' H' S' ρ' σ' → D.bk σ' H'
  | .rt r => ∀ g' H' v, Ext g H g' H' → Rel K g' H' S' [] [] → SlotOk K g' H' r v → D.rt v H'
def TSv (K : Frag) (m : Env → Sto → DL.R Fl) : TS := fun D σ H => ∃ g ρ S fl ρ' S', Rel K g H S ρ σ ∧ m ρ S = .ok fl ρ' S' ∧ Aft K g H S' ρ' D fl
theorem Aft.ext {K : Frag} {g g1 : Gh} {H H1 : Hp} {S' : Sto} {ρ' : Env} {D : Ends} {fl : Fl} (X : Ext g H g1 H1) (a : Aft K g H S' ρ' D fl) : Aft K g1 H1 S' ρ' D fl := by
  cases fl with
  | nx => exact fun g' H' σ' X' R => a g' H' σ' (X.trans X') R
  | ct => exact fun g' H' σ' X' R => a g' H' σ' (X.trans X') R
  | bk => exact fun g' H' σ' X' R => a g' H' σ' (X.trans X') R
  | rt r => exact fun g' H' v X' R h => a g' H' v (X.trans X') R h

section
variable {K : Frag} {g : Gh} {H : Hp} {S : Sto} {ρ : Env} {σ : St}
/-- a slot that gets a result -/
theorem Rel.setR (R : Rel K g H S ρ σ) {i : Nat} {r : Rv} {v : V} (h : RR K g H ρ σ r v) : Rel K g H S (ρ.set i (some r)) (σ.set i (some v)) := by
  cases r with
  | v u => exact R.set h.1
  | own xs =>
    have ap := h.2 xs rfl
    refine ⟨by simp [R.len], fun j r e => ?_, fun j l ys zs w hjl e1 e2 e3 => ?_, R.iol, R.ion, R.sto, R.fzt, R.prt⟩
    · by_cases hj : j = i
      · subst hj
        by_cases hl : j < ρ.length
        · rw [List.getElem?_set_self hl] at e
          cases e
          exact ⟨v, List.getElem?_set_self (by rw [← R.len]; exact hl), h.1⟩
        · rw [List.getElem?_eq_none (by simpa using hl)] at e; cases e
      · rw [List.getElem?_set_ne (Ne.symm hj)] at e
        obtain ⟨w, h1, h2⟩ := R.slot j r e
        exact ⟨w, by rw [List.getElem?_set_ne (Ne.symm hj)]; exact h1, h2⟩
    · by_cases hj : j = i
      · subst hj
        have hl : l ≠ j := Ne.symm hjl
        rw [List.getElem?_set_ne hjl] at e2
        rw [List.getElem?_set_ne hjl]
        by_cases hs : j < σ.length
        · rw [List.getElem?_set_self hs] at e3
          cases e3
          exact ap l zs e2
        · rw [List.getElem?_eq_none (by simpa using hs)] at e3; cases e3
      · rw [List.getElem?_set_ne (Ne.symm hj)] at e1 e3
        by_cases hl : l = i
        · subst hl
          intro e4
          by_cases hs : l < σ.length
          · rw [List.getElem?_set_self hs] at e4
            cases e4
            exact ap j ys e1 e3
          · rw [List.getElem?_eq_none (by simpa using hs)] at e4; cases e4
        · rw [List.getElem?_set_ne (Ne.symm hl)] at e2
          rw [List.getElem?_set_ne (Ne.symm hl)]
          exact R.inj j l ys zs w hjl e1 e2 e3
/-- a slot's own list is changed -/
theorem Rel.alter (R : Rel K g H S ρ σ) {i : Nat} {xs ys : List Vl} {a : Addr} {ws : List V} (e : ρ[i]? = some (some (.own xs))) (es : σ[i]? = some (some (.ref a))) (h : RVs K g H ys ws) :
    Ext g H g (upd H a (.lst ws)) ∧ Rel K g (upd H a (.lst ws)) S (ρ.set i (some (.own ys))) σ := by
  obtain ⟨v, q1, b, vs, eb, h1, h2, h3, h4, h5⟩ := R.slot i _ e
  rw [es] at q1
  have q1 := Option.some.inj (Option.some.inj q1)
  rw [← q1] at eb
  have eb := V.ref.inj eb
  subst eb
  have hil := (List.getElem?_eq_some_iff.mp e).1
  have R1 : Rel K g H S (ρ.set i none) σ := by
    refine R.less (by rw [List.length_set]; exact R.len) fun j r e => ?_
    by_cases hj : i = j
    · subst hj; rw [List.getElem?_set_self hil] at e; cases e
    · rw [List.getElem?_set_ne hj] at e; exact ⟨e, rfl⟩
  have ap : Apart (ρ.set i none) σ (.ref a) := fun j zs e1 e2 => by
    by_cases hj : i = j
    · subst hj; rw [List.getElem?_set_self hil] at e1; cases e1
    · rw [List.getElem?_set_ne hj] at e1
      exact R.inj i j xs zs _ hj e e1 es e2
  obtain ⟨X2, R2⟩ := R1.change (o := .lst ws) h3 h4 ap h5
  refine ⟨X2, ?_⟩
  have R3 := R2.setR (i := i) (r := .own ys) (v := .ref a) ⟨⟨a, ws, rfl, upd_same, h.mono X2, h3, h4, h5⟩, fun _ _ => ap⟩
  rw [List.set_set, set_same es] at R3
  exact R3
/-- an object of the store is changed -/
theorem Rel.alterH (R : Rel K g H S ρ σ) {n : Nat} {xs ys : List Vl} {a : Addr} {ws : List V} (e : S[n]? = some (.lst xs)) (es : g.io[n]? = some a) (h : RVs K g H ys ws) :
    Ext g H g (upd H a (.lst ws)) ∧ Rel K g (upd H a (.lst ws)) (S.set n (.lst ys)) ρ σ := by
  obtain ⟨h1, h2, h3⟩ := R.sto n a _ es e
  have X : Ext g H g (upd H a (.lst ws)) := ⟨rfl, fun _ h => h, fun b hb => upd_ne fun z => h2 (z ▸ hb), List.prefix_refl _⟩
  refine ⟨X, R.len, fun i r e => ?_, R.inj, by rw [List.length_set]; exact R.iol, R.ion, fun m b mo e1 e2 => ?_, fun b hb => ?_, fun b u q => ?_⟩
  · obtain ⟨v, q1, q2⟩ := R.slot i r e
    refine ⟨v, q1, ?_⟩
    cases r with
    | v u => exact RV.mono X q2
    | own zs =>
      obtain ⟨b, vs, rfl, b1, b2, b3, b4, b5⟩ := q2
      have ne : b ≠ a := fun z => b4 (by rw [z]; exact List.mem_of_getElem? es)
      exact ⟨b, vs, rfl, by rw [upd_ne ne]; exact b1, b2.mono X, b3, b4, b5⟩
  · by_cases hm : m = n
    · subst hm
      rw [es] at e1; cases e1
      rw [List.getElem?_set_self (List.getElem?_eq_some_iff.mp e).1] at e2
      cases e2
      exact ⟨⟨ws, upd_same, h.mono X⟩, h2, h3⟩
    · rw [List.getElem?_set_ne (Ne.symm hm)] at e2
      obtain ⟨q1, q2, q3⟩ := R.sto m b mo e1 e2
      have ne : b ≠ a := fun z => by
        subst z
        obtain ⟨l1, p1⟩ := List.getElem?_eq_some_iff.mp e1
        obtain ⟨l2, p2⟩ := List.getElem?_eq_some_iff.mp es
        exact hm ((List.getElem_inj R.ion).mp (p1.trans p2.symm))
      exact ⟨q1.ext X (upd_ne ne), q2, q3⟩
  · obtain ⟨u, e⟩ := R.fzt b hb
    exact ⟨u, by rw [upd_ne (show b ≠ a from fun z => h2 (z ▸ hb))]; exact e⟩
  · obtain ⟨q1, q2⟩ := R.prt b u q
    exact ⟨by rw [upd_ne (show b ≠ a from fun z => h3 u (z ▸ q))]; exact q1, q2⟩
theorem Rel.noSlots (R : Rel K g H S ρ σ) : Rel K g H S [] [] := R.less rfl fun j r e => by simp at e
end

/-! ### assignments -/
def notComp : Expr → Bool
  | .ListComp _ _ _ _ => false
  | .SetComp _ _ _ _ => false
  | .DictComp _ _ _ _ _ => false
  | _ => true
theorem sw_plain {e : Expr} {t : Option Expr} {l : Nat} {env : PySem.Env} (h : notComp e = true) : swapsWith e t l env = pure false := by
  cases e <;> first | rfl | cases h
theorem sw_cell {elt : Expr} {gs : List Comprehension} {scope : Scope} {pos py : Pos} {y : Str} {l : Nat} {env : PySem.Env} (hy : env.scope.names.lookup y = some .cell) : swapsWith (.ListComp elt gs scope pos) (some (.Name y py)) l env = pure false := by
  have ky : env.kindOf y = some .cell := hy
  unfold swapsWith
  simp only [ky]
  have e1 : ((some NameKind.cell : Option NameKind) == some NameKind.local) = false := by decide
  rw [e1]
  simp
def swOk (x : Str) (py : Pos) : Expr → Bool
  | .ListComp _ _ scope pos => (py.line == pos.line) && !(scope.names.any fun (n, k) => n == x && (k == .local || k == .cell))
  | _ => false
section
variable {X : Cx} {K : Frag} {m : Env → Sto → DL.R Rv}
abbrev mSet (i : Nat) (m : Env → Sto → DL.R Rv) : Env → Sto → DL.R Fl := fun ρ S => (m ρ S).bind fun r ρ1 S1 => .ok .nx (ρ1.set i (some r)) S1
theorem set_im {i : Nat} {t : TE} (h : ∀ σ H Q, TEv K m σ H Q → t σ H Q) : ∀ D σ H, TSv K (mSet i m) D σ H → tAsg t (gName i) D σ H := fun D σ H ⟨g, ρ, S, fl, ρ', S', R, e, a⟩ => by
  obtain ⟨r, ρ1, S1, e1, e2⟩ := bindEq e
  cases e2
  exact h σ H _ ⟨g, ρ, S, r, _, _, R, e1, fun g' H' v X' R' rr => a g' H' _ X' (R'.setR rr)⟩
end
end DL

end

section
set_option Elab.async false
set_option linter.all false
set_option autoImplicit false
set_option maxHeartbeats 4000000
/-! DL17: statements are sound. -/
namespace DL
open PySem L2

section
variable {G : Gls} {F : Fns} {k : Nat} {c : Cc} {X : Cx}
/-- y = [..] on one line, y a local name -/
theorem comp_ps (Gd : Good G F k c X) {tg : TG} {own : List Nat} {x t i : Expr} {ifs : List Expr} {scope : Scope} {pos py spos : Pos} {y : Str} {n : Nat} {mI : Env → Sto → DL.R (List Vl)} {mB : Env → Sto → DL.R (Option Vl)} {tt : TT} {te : TE}
    (hn : X.N[n]? = some y) (hl : isLocal c.sc y = true) (hsw : swOk y py (.ListComp x [⟨t, i, ifs, 0⟩] scope pos) = true)
    (hB : chkB c scope own tg = true) (hT : chkT (c.blk scope) tg t = true) (hI : PI X t i (TIv X.K mI)) (hs : notSet i = true)
    (ht : ∀ (s : Shared) (H : Hp) (C : Addr) (cl : List (Str × Addr)) (fp : List Addr), PTs (X.blk s H scope (compEnvC scope cl C X.env) fp) ifs tt)
    (he : ∀ (s : Shared) (H : Hp) (C : Addr) (cl : List (Str × Addr)) (fp : List Addr), PE (X.blk s H scope (compEnvC scope cl C X.env) fp) x te) (hb : TBv X.K mB tt te) (hk : X.env.scope.kind = .function) :
    PS X (.Assign [.Name y py] (.ListComp x [⟨t, i, ifs, 0⟩] scope pos) spos) (TSv X.K (mSet n fun ρ S => (mI ρ S).bind fun xs ρ1 S1 =>
      if noOwn ρ1 own then
        (turns (fun x ρ S => match bindT tg x S (wipe ρ own) with
          | some ρ2 => mB ρ2 S
          | none => .no) xs [] ρ1 S1).bind fun acc ρ2 S2 => .ok (.own acc) (unwipe ρ1 ρ2 own) S2
      else .no)) := by
  obtain ⟨hB1, hB2⟩ := chkB_ok Gd.toFits hB
  have hyl : X.env.scope.names.lookup y = some .local := by rw [Gd.sc]; exact isLocal_eq hl
  unfold swOk at hsw
  simp only [Bool.and_eq_true, Bool.not_eq_true'] at hsw
  have P := ps_setLc (g := TGv X.K tg) (te := te) (py := py) (pos := pos) (spos := spos) Gd.calm Gd.nd hn hyl (sw_true hk hyl hsw.1 hsw.2) hI hB1 (fun s H C cl fp => soundT (Gd.blk scope s H C cl fp).toFits tg t hT) ht he (noSet hs)
  rw [ownN_snd] at P
  refine imS P (set_im fun σ H Q ⟨g, ρ, S, r, ρ', S', R, e, q⟩ => ?_)
  obtain ⟨xs, ρ1, S1, e1, e2⟩ := bindEq e
  split at e2
  · rename_i hn
    obtain ⟨acc, ρ2, S2, e3, e4⟩ := bindEq e2
    cases e4
    refine comp_im hb hB2 R e1 hn e3 fun g' H' D vs X' R' h1 h2 h3 h4 h5 h6 => ?_
    exact q g' H' _ X' R' ⟨⟨D, vs, rfl, h1, h2, h3, h4, h5⟩, fun _ _ => h6⟩
  · cases e2

def isLC : Expr → Bool
  | .ListComp _ _ _ _ => true
  | _ => false
/-- y = e -/
def chkAs (c : Cc) (i : Nat) (x : Str) (py : Pos) (e : E) (y : Expr) : Bool := chkW c i x && chkE c e y && (notComp y || (isCell c.sc x && isLC y) || (isLocal c.sc x && swOk x py y && (match e with | .comp _ _ _ _ => true | .compIf _ _ _ _ _ => true | _ => false)))
theorem soundAs (Gd : Good G F k c X) (hk : X.env.scope.kind = .function) {i : Nat} {x : Str} {py pos : Pos} {e : E} {y : Expr} (h : chkAs c i x py e y = true) : PS X (.Assign [.Name x py] y pos) (TSv X.K (mSet i (ev G F e))) := by
  unfold chkAs at h
  simp only [Bool.and_eq_true, Bool.or_eq_true] at h
  obtain ⟨⟨h1, h2⟩, h3⟩ := h
  obtain ⟨n1, n2, n3⟩ := chkW_ok Gd.toFits h1
  have plain : swapsWith y (some (.Name x py)) pos.line X.env = pure false → PS X (.Assign [.Name x py] y pos) (TSv X.K (mSet i (ev G F e))) := fun hs =>
    imS (ps_set Gd.nd n1 n2 (soundE Gd e y h2).1 hs n3) (set_im fun _ _ _ h => h)
  rcases h3 with (h3 | h3) | ⟨⟨h3, h4⟩, h5⟩
  · exact plain (sw_plain h3)
  · cases y <;> first | (cases h3.2; done) | skip
    exact plain (sw_cell (by rw [Gd.sc]; exact isCell_eq h3.1))
  · cases e <;> first | (cases h5; done) | skip
    · rename_i tg it elt own
      cases y <;> first | (simp [chkE] at h2; done) | skip
      rename_i y0 gs scope pos2
      cases gs with
      | nil => simp [chkE] at h2
      | cons g0 gs =>
        obtain ⟨t, i0, ifs, ia⟩ := g0
        cases gs <;> first | (simp [chkE] at h2; done) | skip
        cases ifs <;> first | (simp [chkE] at h2; done) | skip
        simp only [chkE, Bool.and_eq_true, decide_eq_true_eq] at h2
        obtain ⟨⟨⟨⟨rfl, q1⟩, q2⟩, q3⟩, q4⟩ := h2
        have e0 : (ev G F (.comp tg it elt own)) = fun ρ S => (evI G F it ρ S).bind fun xs ρ1 S1 =>
          if noOwn ρ1 own then
            (turns (fun x ρ S => match bindT tg x S (wipe ρ own) with
              | some ρ2 => (fzR (ev G F elt ρ2 S)).bind fun v ρ3 S3 => .ok (some v) ρ3 S3
              | none => .no) xs [] ρ1 S1).bind fun acc ρ2 S2 => .ok (.own acc) (unwipe ρ1 ρ2 own) S2
          else .no := by funext ρ S; first | (rw [ev]; done) | (rw [ev]; rfl)
        rw [e0]
        exact comp_ps Gd n1 h3 h4 q1 q3 (soundI Gd it t i0 q2) (chkI_set q2) (fun s H C cl fp => pts_nil) (fun s H C cl fp => fz_pe (soundE (Gd.blk scope s H C cl fp) elt y0 q4).1) tb_plain hk
    · rename_i tg it d elt own
      cases y <;> first | (simp [chkE] at h2; done) | skip
      rename_i y0 gs scope pos2
      cases gs with
      | nil => simp [chkE] at h2
      | cons g0 gs =>
        obtain ⟨t, i0, ifs, ia⟩ := g0
        cases gs <;> first | (simp [chkE] at h2; done) | skip
        cases ifs with
        | nil => simp [chkE] at h2
        | cons z0 ifs =>
          cases ifs <;> first | (simp [chkE] at h2; done) | skip
          simp only [chkE, Bool.and_eq_true, decide_eq_true_eq] at h2
          obtain ⟨⟨⟨⟨⟨⟨rfl, q1⟩, q2⟩, q3⟩, t5⟩, q5⟩, q4⟩ := h2
          have e0 : (ev G F (.compIf tg it d elt own)) = fun ρ S => (evI G F it ρ S).bind fun xs ρ1 S1 =>
            if noOwn ρ1 own then
              (turns (fun x ρ S => match bindT tg x S (wipe ρ own) with
                | some ρ2 => (ev G F d ρ2 S).bind fun r ρ3 S3 => match r with
                  | .v (.d (.bl true)) => (fzR (ev G F elt ρ3 S3)).bind fun v ρ4 S4 => .ok (some v) ρ4 S4
                  | .v (.d (.bl false)) => .ok none ρ3 S3
                  | _ => .no
                | none => .no) xs [] ρ1 S1).bind fun acc ρ2 S2 => .ok (.own acc) (unwipe ρ1 ρ2 own) S2
            else .no := by funext ρ S; first | (rw [ev]; done) | (rw [ev]; rfl)
          rw [e0]
          exact comp_ps Gd n1 h3 h4 q1 q3 (soundI Gd it t i0 q2) (chkI_set q2) (fun s H C cl fp => pts_one ((soundE (Gd.blk scope s H C cl fp) d z0 q5).2 t5)) (fun s H C cl fp => fz_pe (soundE (Gd.blk scope s H C cl fp) elt y0 q4).1) tb_if hk
end

/-! ### loops -/
theorem for_im {K : Frag} {tg : TG} {mI : Env → Sto → DL.R (List Vl)} {mB : Env → Sto → DL.R Fl} : ∀ D σ H, TSv K (fun ρ S => (mI ρ S).bind fun xs ρ1 S1 => loop (fun x ρ S => match bindT tg x S ρ with
      | some ρ2 => mB ρ2 S
      | none => .no) xs ρ1 S1) D σ H → tFor (TIv K mI) (TGv K tg) (TSv K mB) D σ H := fun D σ H ⟨g, ρ, S, fl, ρ', S', R, e, a⟩ => by
  obtain ⟨xs, ρ1, S1, e1, e2⟩ := bindEq e
  generalize hf : (fun (x : Vl) (ρ : Env) (S : Sto) => match bindT tg x S ρ with
      | some ρ2 => mB ρ2 S
      | none => DL.R.no) = f at e2
  refine ⟨g, ρ, S, xs, ρ1, S1, R, e1, fun g1 H1 J X1 R1 wk => ?_⟩
  refine ⟨fun i m σ H => m = xs.length - i ∧ i ≤ xs.length ∧ ∃ g2 ρi Si, Ext g1 H1 g2 H ∧ Rel K g2 H Si ρi σ ∧ loop f (xs.drop i) ρi Si = .ok fl ρ' S', ⟨xs.length, by simp, Nat.zero_le _, g1, ρ1, S1, Ext.refl _ _, R1, by simpa using e2⟩, ?_⟩
  rintro i m σ2 H2 ⟨rfl, hi, g2, ρi, Si, X2, R2, el⟩
  by_cases hlt : i < xs.length
  · have hx : xs[i]? = some xs[i] := List.getElem?_eq_getElem hlt
    have ed : xs.drop i = xs[i] :: xs.drop (i + 1) := List.drop_eq_getElem_cons hlt
    rw [ed] at el
    unfold loop at el
    obtain ⟨fl1, ρa, Sa, ea, eb⟩ := bindEq el
    refine .inr ⟨wk.go i g2 H2 Si _ _ hlt X2.ex R2, fun σ' H' => ∃ m', m' < xs.length - i ∧ (m' = xs.length - (i + 1) ∧ i + 1 ≤ xs.length ∧ ∃ g2 ρi Si, Ext g1 H1 g2 H' ∧ Rel K g2 H' Si ρi σ' ∧ loop f (xs.drop (i + 1)) ρi Si = .ok fl ρ' S'), fun σ' H' h => h, fun x H3 yl => ?_⟩
    obtain ⟨g3, X3, R3, rx⟩ := wk.yld i g2 H2 Si _ _ x H3 _ hx X2.ex R2 yl
    rw [← hf] at ea
    simp only at ea
    split at ea
    · rename_i ρ2 hbind
      refine ⟨g3, _, Si, _, ρ2, R3, rx, hbind, fun σ4 R4 ag => ?_⟩
      refine ⟨g3, ρ2, Si, fl1, ρa, Sa, R4, ea, ?_⟩
      have X13 := X2.trans X3
      cases fl1 with
      | nx => exact fun g' H' σ' X' R' => ⟨xs.length - (i + 1), by omega, rfl, hlt, g', ρa, Sa, X13.trans X', R', eb⟩
      | ct => exact fun g' H' σ' X' R' => ⟨xs.length - (i + 1), by omega, rfl, hlt, g', ρa, Sa, X13.trans X', R', eb⟩
      | bk => cases eb; exact fun g' H' σ' X' R' => a g' H' σ' (X1.trans (X13.trans X')) R'
      | rt r => cases eb; exact fun g' H' v X' R' h => a g' H' v (X1.trans (X13.trans X')) R' h
    · cases ea
  · have ei : i = xs.length := by omega
    subst ei
    rw [List.drop_length] at el
    unfold loop at el
    cases el
    exact .inl ⟨wk.stop g2 H2 _ _ _ X2.ex R2, a g2 H2 σ2 (X1.trans X2) R2⟩
theorem while_im {K : Frag} {mC : Env → Sto → DL.R Rv} {mB : Env → Sto → DL.R Fl} (N : Nat) : ∀ D σ H, TSv K (fun ρ S => whileN (fun ρ S => fzR (mC ρ S)) mB N ρ S) D σ H → tWhile (TTv K mC) (TSv K mB) D σ H := fun D σ H ⟨g, ρ, S, fl, ρ', S', R, e, a⟩ => by
  refine ⟨fun n σ2 H2 => ∃ g2 ρi Si, Ext g H g2 H2 ∧ Rel K g2 H2 Si ρi σ2 ∧ whileN (fun ρ S => fzR (mC ρ S)) mB n ρi Si = .ok fl ρ' S', ⟨N, g, ρ, S, Ext.refl _ _, R, e⟩, ?_⟩
  rintro n σ2 H2 ⟨g2, ρi, Si, X2, R2, el⟩
  cases n with
  | zero => cases el
  | succ n =>
    unfold whileN at el
    obtain ⟨u, ρa, Sa, ea, eb⟩ := bindEq el
    obtain ⟨r, ec, er⟩ := fzR_eq ea
    split at eb
    · have hr : r = vD (.bl true) := by
        cases r with
        | v x => cases er; rfl
        | own ys => obtain ⟨ds, _, z⟩ := Rv.fz_own er; cases z
      subst hr
      refine ⟨g2, ρi, Si, true, ρa, Sa, R2, ec, fun g3 H3 X3 R3 => ?_⟩
      show if true = true then _ else _
      rw [if_pos rfl]
      obtain ⟨fl1, ρb, Sb, ed, ef⟩ := bindEq eb
      refine ⟨fun σ' H' => ∃ m', m' < n + 1 ∧ ∃ g2 ρi Si, Ext g H g2 H' ∧ Rel K g2 H' Si ρi σ' ∧ whileN (fun ρ S => fzR (mC ρ S)) mB m' ρi Si = .ok fl ρ' S', fun σ' H' h => h, g3, ρa, Sa, fl1, ρb, Sb, R3, ed, ?_⟩
      have X03 := X2.trans X3
      cases fl1 with
      | nx => exact fun g' H' σ' X' R' => ⟨n, Nat.lt_succ_self n, g', ρb, Sb, X03.trans X', R', ef⟩
      | ct => exact fun g' H' σ' X' R' => ⟨n, Nat.lt_succ_self n, g', ρb, Sb, X03.trans X', R', ef⟩
      | bk => cases ef; exact fun g' H' σ' X' R' => a g' H' σ' (X03.trans X') R'
      | rt r => cases ef; exact fun g' H' v X' R' h => a g' H' v (X03.trans X') R' h
    · have hr : r = vD (.bl false) := by
        cases r with
        | v x => cases er; rfl
        | own ys => obtain ⟨ds, _, z⟩ := Rv.fz_own er; cases z
      subst hr
      cases eb
      refine ⟨g2, ρi, Si, false, _, _, R2, ec, fun g3 H3 X3 R3 => ?_⟩
      show if false = true then _ else _
      rw [if_neg Bool.false_ne_true]
      exact a g3 H3 σ2 (X2.trans X3) R3
    · cases eb
end DL

end

section
set_option Elab.async false
set_option linter.all false
set_option autoImplicit false
set_option maxHeartbeats 4000000
/-! DL18: statements are sound. -/
namespace DL
open PySem L2

def notTup : Expr → Bool
  | .Tuple _ _ _ => false
  | _ => true
def asgP : Stmt → Option (Str × Pos × Expr × Pos)
  | .Assign [.Name x py] y p => some (x, py, y, p)
  | _ => none
theorem asgP_eq {st : Stmt} {x : Str} {py : Pos} {y : Expr} {p : Pos} (h : asgP st = some (x, py, y, p)) : st = .Assign [.Name x py] y p := by
  unfold asgP at h
  split at h
  · cases h; rfl
  · cases h
def asgT : Stmt → Option (Expr × Expr × Pos)
  | .Assign [.Tuple xs k p] y q => some (.Tuple xs k p, y, q)
  | _ => none
theorem asgT_eq {st : Stmt} {t y : Expr} {p : Pos} (h : asgT st = some (t, y, p)) : st = .Assign [t] y p ∧ isTup t = true := by
  unfold asgT at h
  split at h
  · cases h; exact ⟨rfl, rfl⟩
  · cases h
structure ParP where
  x : Str
  px : Pos
  y : Str
  py : Pos
  kt : Nat
  pt : Pos
  u : Expr
  w : Expr
  k2 : Nat
  pt2 : Pos
  pos : Pos
def ParP.stmt (p : ParP) : Stmt := .Assign [.Tuple [.Name p.x p.px, .Name p.y p.py] p.kt p.pt] (.Tuple [p.u, p.w] p.k2 p.pt2) p.pos
def parP : Stmt → Option ParP
  | .Assign [.Tuple [.Name x px, .Name y py] kt pt] (.Tuple [u, w] k2 pt2) pos => some ⟨x, px, y, py, kt, pt, u, w, k2, pt2, pos⟩
  | _ => none
theorem parP_eq {st : Stmt} {p : ParP} (h : parP st = some p) : st = p.stmt := by
  unfold parP at h
  split at h
  · cases h; rfl
  · cases h
def setP : Stmt → Option (Str × Pos × Expr × Pos × Expr × Pos)
  | .Assign [.Subscript (.Name x p1) ix p2] y p3 => some (x, p1, ix, p2, y, p3)
  | _ => none
theorem setP_eq {st : Stmt} {x : Str} {p1 : Pos} {ix : Expr} {p2 : Pos} {y : Expr} {p3 : Pos} (h : setP st = some (x, p1, ix, p2, y, p3)) : st = .Assign [.Subscript (.Name x p1) ix p2] y p3 := by
  unfold setP at h
  split at h
  · cases h; rfl
  · cases h
def appP : Stmt → Option (Str × Pos × Str × Pos × Expr × Pos × Pos)
  | .Expr (.Call (.Attribute (.Name x p1) a ap) [y] [] cp) p2 => some (x, p1, a, ap, y, cp, p2)
  | _ => none
theorem appP_eq {st : Stmt} {x : Str} {p1 : Pos} {a : Str} {ap : Pos} {y : Expr} {cp p2 : Pos} (h : appP st = some (x, p1, a, ap, y, cp, p2)) : st = .Expr (.Call (.Attribute (.Name x p1) a ap) [y] [] cp) p2 := by
  unfold appP at h
  split at h
  · cases h; rfl
  · cases h
def chkPar (c : Cc) (i j : Nat) (p : ParP) : Bool := decide (c.N[i]? = some p.x) && decide (c.N[j]? = some p.y) && decide (i ≠ j) && isLocal c.sc p.x && isLocal c.sc p.y && notStar p.u && notStar p.w &&
      decide (p.px.line = p.py.line) && decide (p.x ≠ p.y) && !((foldedForSure 8 p.u && foldedForSure 8 p.w)) && !((constantsAlone 8 p.u && constantsAlone 8 p.w))
mutual
def chkS (c : Cc) : S → Stmt → Bool
  | .asg (.nm i) e, st => match asgP st with
    | some (x, py, y, _) => chkAs c i x py e y
    | none => false
  | .asg (.tp ts) e, st => match asgT st with
    | some (t, y, _) => chkT c (.tp ts) t && chkE c e y && notTup y
    | none => false
  | .par i j a b, st => match parP st with
    | some p => chkPar c i j p && chkE c a p.u && chkE c b p.w
    | none => false
  | .setIx i ix e, st => match setP st with
    | some (x, _, ix', _, y, _) => chkV c i x && chkE c ix ix' && notSlice ix' && chkE c e y
    | none => false
  | .app i e, st => match appP st with
    | some (x, _, a, ap, y, cp, _) => decide (a = "append") && (ap.endLine == cp.line) && chkV c i x && chkE c e y && notStar y
    | none => false
  | .ex e, .Expr x _ => chkE c e x && notComp x
  | .ifs t a b, .If x ys zs _ => tst t && chkE c t x && chkSs c a ys && chkSs c b zs
  | .fors t it b, .For x i ys os _ => os.isEmpty && chkT c t x && chkI c x it i && chkSs c b ys
  | .whl t b, .While x ys os _ => os.isEmpty && tst t && chkE c t x && chkSs c b ys
  | .ret e, .Return ox _ => match ox with
    | some x => chkE c e x
    | none => false
  | .pass, .Pass _ => true
  | .cont, .Continue _ => true
  | .brk, .Break _ => true
  | _, _ => false
def chkSs (c : Cc) : SL → List Stmt → Bool
  | .nil, [] => true
  | .cons s ss, x :: xs => chkS c s x && chkSs c ss xs
  | _, _ => false
end

section
variable {K : Frag} {X : Cx}
theorem seq_im {m1 m2 : Env → Sto → DL.R Fl} : ∀ D σ H, TSv K (fun ρ S => (m1 ρ S).bind fun fl ρ1 S1 => match fl with
    | .nx => m2 ρ1 S1
    | fl => .ok fl ρ1 S1) D σ H → tSeq (TSv K m1) (TSv K m2) D σ H := fun D σ H ⟨g, ρ, S, fl, ρ', S', R, e, a⟩ => by
  obtain ⟨fl1, ρ1, S1, e1, e2⟩ := bindEq e
  refine ⟨g, ρ, S, fl1, ρ1, S1, R, e1, ?_⟩
  cases fl1 with
  | nx => exact fun g' H' σ' X' R' => ⟨g', ρ1, S1, fl, ρ', S', R', e2, a.ext X'⟩
  | ct => cases e2; exact fun g' H' σ' X' R' => a g' H' σ' X' R'
  | bk => cases e2; exact fun g' H' σ' X' R' => a g' H' σ' X' R'
  | rt r => cases e2; exact fun g' H' v X' R' h => a g' H' v X' R' h
theorem if_im {mC : Env → Sto → DL.R Rv} {m1 m2 : Env → Sto → DL.R Fl} : ∀ D σ H, TSv K (fun ρ S => (mC ρ S).bind fun r ρ1 S1 => match r with
    | .v (.d (.bl true)) => m1 ρ1 S1
    | .v (.d (.bl false)) => m2 ρ1 S1
    | _ => .no) D σ H → tIfS (TTv K mC) (TSv K m1) (TSv K m2) D σ H := fun D σ H ⟨g, ρ, S, fl, ρ', S', R, e, a⟩ => by
  obtain ⟨r, ρ1, S1, e1, e2⟩ := bindEq e
  split at e2
  · refine ⟨g, ρ, S, true, ρ1, S1, R, e1, fun g1 H1 X1 R1 => ?_⟩
    show if true = true then _ else _
    rw [if_pos rfl]
    exact ⟨g1, ρ1, S1, fl, ρ', S', R1, e2, a.ext X1⟩
  · refine ⟨g, ρ, S, false, ρ1, S1, R, e1, fun g1 H1 X1 R1 => ?_⟩
    show if false = true then _ else _
    rw [if_neg Bool.false_ne_true]
    exact ⟨g1, ρ1, S1, fl, ρ', S', R1, e2, a.ext X1⟩
  · cases e2
theorem asgT_im {ts : TGL} {m : Env → Sto → DL.R Vl} : ∀ D σ H, TSv K (fun ρ S => (m ρ S).bind fun v ρ1 S1 => match bindT (.tp ts) v S1 ρ1 with
    | some ρ2 => .ok .nx ρ2 S1
    | none => .no) D σ H → tAsg (TVl K m) (TGv K (.tp ts)) D σ H := fun D σ H ⟨g, ρ, S, fl, ρ', S', R, e, a⟩ => by
  obtain ⟨u, ρ1, S1, e1, e2⟩ := bindEq e
  split at e2
  · rename_i ρ2 hb
    cases e2
    exact ⟨g, ρ, S, u, _, _, R, e1, fun g1 H1 v X1 R1 rv => ⟨g1, _, _, u, _, R1, rv, hb, fun σ' R' _ => a g1 H1 σ' X1 R'⟩⟩
  · cases e2
theorem ex_im {m : Env → Sto → DL.R Vl} : ∀ D σ H, TSv K (fun ρ S => (m ρ S).bind fun _ ρ1 S1 => .ok .nx ρ1 S1) D σ H → tDrop (TVl K m) D σ H := fun D σ H ⟨g, ρ, S, fl, ρ', S', R, e, a⟩ => by
  obtain ⟨u, ρ1, S1, e1, e2⟩ := bindEq e
  cases e2
  exact ⟨g, ρ, S, u, _, _, R, e1, fun g1 H1 v X1 R1 rv => a g1 H1 σ X1 R1⟩
theorem ret_im {m : Env → Sto → DL.R Rv} : ∀ D σ H, TSv K (fun ρ S => (m ρ S).bind fun r ρ1 S1 => .ok (.rt r) ρ1 S1) D σ H → tRet (TEv K m) D σ H := fun D σ H ⟨g, ρ, S, fl, ρ', S', R, e, a⟩ => by
  obtain ⟨r, ρ1, S1, e1, e2⟩ := bindEq e
  cases e2
  exact ⟨g, ρ, S, r, _, _, R, e1, fun g1 H1 v X1 R1 rr => a g1 H1 v X1 R1.noSlots rr.1⟩
theorem par_im {i j : Nat} {m1 m2 : Env → Sto → DL.R Vl} : ∀ D σ H, TSv K (fun ρ S => (m1 ρ S).bind fun v ρ1 S1 => (m2 ρ1 S1).bind fun w ρ2 S2 => .ok .nx ((ρ2.set i (some (.v v))).set j (some (.v w))) S2) D σ H → tPar i j (tCons (TVl K m1) (tCons (TVl K m2) tNil)) D σ H := fun D σ H ⟨g, ρ, S, fl, ρ', S', R, e, a⟩ => by
  obtain ⟨u, ρ1, S1, e1, e2⟩ := bindEq e
  obtain ⟨w, ρ2, S2, e3, e4⟩ := bindEq e2
  cases e4
  refine ⟨g, ρ, S, u, ρ1, S1, R, e1, fun g1 H1 v X1 R1 rv => ⟨g1, ρ1, S1, w, ρ2, _, R1, e3, fun g2 H2 v2 X2 R2 rw' => ⟨v, v2, rfl, ?_⟩⟩⟩
  exact a g2 H2 _ (X1.trans X2) ((R2.set (rv.mono X2)).set rw')
theorem app_im {i : Nat} {m : Env → Sto → DL.R Vl} : ∀ D σ H, TSv K (fun ρ S => match ρ[i]? with
    | some (some (.own _)) => (m ρ S).bind fun v ρ1 S1 => match ρ1[i]? with
      | some (some (.own xs)) => if xs.length < big then .ok .nx (ρ1.set i (some (.own (xs ++ [v])))) S1 else .no
      | _ => .no
    | _ => .no) D σ H → tDrop (tBM K "list" rAppend (tVar i) (tCons (TVl K m) tNil)) D σ H := fun D σ H ⟨g, ρ, S, fl, ρ', S', R, e, a⟩ => by
  have e : (match ρ[i]? with
    | some (some (.own _)) => (m ρ S).bind fun v ρ1 S1 => match ρ1[i]? with
      | some (some (.own xs)) => if xs.length < big then DL.R.ok Fl.nx (ρ1.set i (some (.own (xs ++ [v])))) S1 else .no
      | _ => .no
    | _ => .no) = DL.R.ok fl ρ' S' := e
  split at e
  · rename_i ys hs
    obtain ⟨x, q1, p, vs, rfl, q2, _⟩ := R.slot i _ hs
    obtain ⟨u, ρ1, S1, e1, e2⟩ := bindEq e
    refine ⟨.ref p, q1, .inl ⟨rfl, vs, SqL.of q2⟩, g, ρ, S, u, ρ1, S1, R, e1, fun g1 H1 v X1 R1 rv => ?_⟩
    split at e2
    · rename_i xs hs1
      split at e2
      · rename_i hb
        cases e2
        obtain ⟨x', z1, p', ws, z2, z3, z4, _⟩ := R1.slot i _ hs1
        rw [q1] at z1
        have z1 := Option.some.inj (Option.some.inj z1)
        rw [← z1] at z2
        have z2 := V.ref.inj z2
        subst z2
        refine ⟨p, ws, v, rfl, rfl, z3, by rw [z4.length]; exact Nat.lt_of_lt_of_le hb (by decide), ?_⟩
        obtain ⟨X2, R2⟩ := R1.alter (ys := xs ++ [u]) (ws := ws ++ [v]) hs1 q1 (RVs.app (RVs.one rv) z4)
        exact a g1 _ σ (X1.trans X2) R2
      · cases e2
    · cases e2
  · cases e
theorem setIx_im {i : Nat} {m mi : Env → Sto → DL.R Vl} : ∀ D σ H, TSv K (fun ρ S => (m ρ S).bind fun v ρ1 S1 => match ρ1[i]? with
    | some (some _) => (mi ρ1 S1).bind fun k ρ2 S2 => match k, ρ2[i]? with
      | .d (.int j), some (some (.own xs)) => match L2.ixN xs.length j with
        | some m => .ok .nx (ρ2.set i (some (.own (xs.set m v)))) S2
        | none => .no
      | .d (.int j), some (some (.v (.h n))) => match S2[n]? with
        | some (.lst xs) => match L2.ixN xs.length j with
          | some m => .ok .nx ρ2 (S2.set n (.lst (xs.set m v)))
          | none => .no
        | _ => .no
      | _, _ => .no
    | _ => .no) D σ H → tAsg (TVl K m) (gSub (tVar i) (TVl K mi) rSetL) D σ H := fun D σ H ⟨g, ρ, S, fl, ρ', S', R, e, a⟩ => by
  obtain ⟨u, ρ1, S1, e1, e2⟩ := bindEq e
  refine ⟨g, ρ, S, u, ρ1, S1, R, e1, fun g1 H1 v X1 R1 rv => ?_⟩
  split at e2
  · rename_i r0 hs0
    obtain ⟨o, q1, _⟩ := R1.slot i _ hs0
    refine ⟨o, q1, ?_⟩
    obtain ⟨kk, ρ2, S2, e3, e4⟩ := bindEq e2
    refine ⟨g1, ρ1, S1, kk, ρ2, S2, R1, e3, fun g2 H2 kv X2 R2 rk => ?_⟩
    have rv2 := rv.mono X2
    split at e4
    · rename_i j xs hs
      split at e4
      · rename_i n hn
        cases e4
        obtain ⟨x', z1, p, ws, z2, z3, z4, _⟩ := R2.slot i _ hs
        rw [q1] at z1
        have z1 := Option.some.inj (Option.some.inj z1)
        subst z1
        subst z2
        obtain ⟨X3, R3⟩ := R2.alter (ys := xs.set n u) (ws := ws.set n v) hs q1 (RVs.set rv2 n z4)
        exact ⟨p, ws, j, n, rfl, (RV.ro rk).int, z3, by rw [z4.length]; exact hn, a g2 _ σ (X1.trans (X2.trans X3)) R3⟩
      · cases e4
    · rename_i j nn hs
      split at e4
      · rename_i xs hS
        split at e4
        · rename_i n hn
          cases e4
          obtain ⟨x', z1, p, z2, z3⟩ := R2.slot i _ hs
          rw [q1] at z1
          have z1 := Option.some.inj (Option.some.inj z1)
          subst z1
          subst z3
          obtain ⟨⟨ws, w1, w2⟩, _⟩ := R2.sto nn p _ z2 hS
          obtain ⟨X3, R3⟩ := R2.alterH (ys := xs.set n u) (ws := ws.set n v) hS z2 (RVs.set rv2 n w2)
          exact ⟨p, ws, j, n, rfl, (RV.ro rk).int, w1, by rw [w2.length]; exact hn, a g2 _ σ (X1.trans (X2.trans X3)) R3⟩
        · cases e4
      · cases e4
    · cases e4
  · cases e2
end
end DL

end

section
set_option Elab.async false
set_option linter.all false
set_option autoImplicit false
set_option maxHeartbeats 4000000
/-! DL19: statements are sound; defs are. -/
namespace DL
open PySem L2

theorem blockKind_fn {env : PySem.Env} (h : env.scope.kind = .function) : env.blockKind = .function := by unfold PySem.Env.blockKind; rw [h]; rfl
theorem par_sw {env : PySem.Env} {x y : Str} {px py pt pt2 : Pos} {kt k2 : Nat} {u w : Expr} (hk : env.scope.kind = .function) (hx : env.scope.names.lookup x = some .local) (hy : env.scope.names.lookup y = some .local)
    (su : notStar u = true) (sw : notStar w = true) (hl : px.line = py.line) (hne : x ≠ y) (h1 : (foldedForSure 8 u && foldedForSure 8 w) = false) (h2 : (constantsAlone 8 u && constantsAlone 8 w) = false) :
    swappedStores [.Tuple [.Name x px, .Name y py] kt pt] (.Tuple [u, w] k2 pt2) env = pure (some [x, y]) := by
  have kx : env.kindOf x = some .local := hx
  have ky : env.kindOf y = some .local := hy
  have hb := blockKind_fn hk
  have ed : ([x, y] : List Str).eraseDups = [x, y] := by
    have : (y == x) = false := by simp; exact fun e => hne e.symm
    simp [List.eraseDups_cons, this]
  have fs : ([u, w].all (foldedForSure 8)) = false := by simpa using h1
  have cs : ([u, w].all (constantsAlone 8)) = false := by simpa using h2
  unfold swappedStores
  simp only [List.length_cons, List.length_nil, hb, List.any_cons, List.any_nil, fs, cs]
  refine (if_neg (by decide)).trans ?_
  refine (if_neg ?_).trans ?_
  · intro h
    rcases (Bool.or_eq_true _ _).mp h with z | z
    · cases u <;> first | (cases su; done) | (cases z; done)
    · rcases (Bool.or_eq_true _ _).mp z with z | z
      · cases w <;> first | (cases sw; done) | (cases z; done)
      · cases z
  · simp [List.filterMap_cons, kx, ky, Expr.pos, ed, hl]

section
variable {G : Gls} {F : Fns} {k : Nat} {c : Cc} {X : Cx}
theorem mApp_eq {i : Nat} {e : E} : exec G F (.app i e) = fun ρ S => match ρ[i]? with
    | some (some (.own _)) => (fzR (ev G F e ρ S)).bind fun v ρ1 S1 => match ρ1[i]? with
      | some (some (.own xs)) => if xs.length < big then .ok .nx (ρ1.set i (some (.own (xs ++ [v])))) S1 else .no
      | _ => .no
    | _ => .no := by funext ρ S; first | (rw [exec]; done) | (rw [exec]; rfl)
mutual
theorem soundS (Gd : Good G F k c X) (hk : X.env.scope.kind = .function) (hx : PassesOwn (model X.prog X.w) X.A X.env X.xe) : ∀ (s : S) (st : Stmt), chkS c s st = true → PS X st (TSv X.K (exec G F s))
  | .asg (.nm i) e, st, h => by
    simp only [chkS] at h
    split at h
    · rename_i x py y p hp
      rw [asgP_eq hp]
      have e0 : exec G F (.asg (.nm i) e) = mSet i (ev G F e) := by funext ρ S; first | (rw [exec]; done) | (rw [exec]; rfl)
      rw [e0]
      exact soundAs Gd hk h
    · cases h
  | .asg (.tp ts) e, st, h => by
    simp only [chkS] at h
    split at h
    · rename_i t y p hp
      obtain ⟨rfl, ht⟩ := asgT_eq hp
      simp only [Bool.and_eq_true] at h
      obtain ⟨⟨h1, h2⟩, h3⟩ := h
      have e0 : exec G F (.asg (.tp ts) e) = fun ρ S => (fzR (ev G F e ρ S)).bind fun v ρ1 S1 => match bindT (.tp ts) v S1 ρ1 with
        | some ρ2 => .ok .nx ρ2 S1
        | none => .no := by funext ρ S; first | (rw [exec]; done) | (rw [exec]; rfl)
      rw [e0]
      cases t <;> first | (cases ht; done) | skip
      refine imS (ps_asg (fz_pe (soundE Gd e y h2).1) (soundT Gd.toFits (.tp ts) _ h1) ?_ ?_ rfl) asgT_im
      · cases y <;> rfl
      · cases y <;> first | rfl | (cases h3; done)
    · cases h
  | .par i j a b, st, h => by
    simp only [chkS] at h
    split at h
    · rename_i p hp
      rw [parP_eq hp]
      simp only [Bool.and_eq_true] at h
      obtain ⟨⟨h0, h6⟩, h7⟩ := h
      unfold chkPar at h0
      simp only [Bool.and_eq_true, decide_eq_true_eq, Bool.not_eq_true'] at h0
      obtain ⟨⟨⟨⟨⟨⟨⟨⟨⟨⟨h1, h2⟩, h3⟩, h4⟩, h5⟩, h8⟩, h9⟩, ha⟩, hb⟩, hc⟩, hd⟩ := h0
      have e0 : exec G F (.par i j a b) = fun ρ S => (fzR (ev G F a ρ S)).bind fun v ρ1 S1 => (fzR (ev G F b ρ1 S1)).bind fun w ρ2 S2 => .ok .nx ((ρ2.set i (some (.v v))).set j (some (.v w))) S2 := by funext ρ S; first | (rw [exec]; done) | (rw [exec]; rfl)
      rw [e0]
      have lx := isLocal_eq h4
      have ly := isLocal_eq h5
      rw [← Gd.sc] at lx ly
      exact imS (ps_par Gd.calm Gd.nd (by rw [Gd.N]; exact h1) (by rw [Gd.N]; exact h2) h3 lx ly (pa_cons (fz_pe (soundE Gd a p.u h6).1) (pa_cons (fz_pe (soundE Gd b p.w h7).1) pa_nil (star_ok h9)) (star_ok h8)) (par_sw hk lx ly h8 h9 ha hb hc hd) rfl) par_im
    · cases h
  | .setIx i ix e, st, h => by
    simp only [chkS] at h
    split at h
    · rename_i x p1 ix' p2 y p3 hp
      rw [setP_eq hp]
      simp only [Bool.and_eq_true] at h
      obtain ⟨⟨⟨h1, h2⟩, h3⟩, h4⟩ := h
      have e0 : exec G F (.setIx i ix e) = fun ρ S => (fzR (ev G F e ρ S)).bind fun v ρ1 S1 => match ρ1[i]? with
        | some (some _) => (fzR (ev G F ix ρ1 S1)).bind fun k ρ2 S2 => match k, ρ2[i]? with
          | .d (.int j), some (some (.own xs)) => match L2.ixN xs.length j with
            | some m => .ok .nx (ρ2.set i (some (.own (xs.set m v)))) S2
            | none => .no
          | .d (.int j), some (some (.v (.h n))) => match S2[n]? with
            | some (.lst xs) => match L2.ixN xs.length j with
              | some m => .ok .nx ρ2 (S2.set n (.lst (xs.set m v)))
              | none => .no
            | _ => .no
          | _, _ => .no
        | _ => .no := by funext ρ S; first | (rw [exec]; done) | (rw [exec]; rfl)
      rw [e0]
      exact imS (ps_asg (fz_pe (soundE Gd e y h4).1) (pg_sub (chkV_ok Gd.toFits h1) (fz_pe (soundE Gd ix ix' h2).1) set_list (by intro v; cases ix' <;> first | rfl | (cases h3; done))) (by cases y <;> rfl) (by cases y <;> rfl) rfl) setIx_im
    · cases h
  | .app i e, st, h => by
    simp only [chkS] at h
    split at h
    · rename_i x p1 an ap y cp p2 hp
      rw [appP_eq hp]
      simp only [Bool.and_eq_true, decide_eq_true_eq] at h
      obtain ⟨⟨⟨⟨rfl, h1⟩, h2⟩, h3⟩, h4⟩ := h
      rw [mApp_eq]
      have sy := star_ok (es := []) (env := X.env) h4
      refine imS (ps_expr (pe_bm PySem.F.plainAttrs_list PySem.F.slot_list_append PySem.F.type_list_append mt_append (chkV_ok Gd.toFits h2) (pa_cons (fz_pe (soundE Gd e y h3).1) pa_nil sy) rfl ?_ h1 sy rfl) rfl) app_im
      rw [sy]; rfl
    · cases h
  | .ex e, st, h => by
    cases st <;> first | (simp [chkS] at h; done) | skip
    rename_i x pos
    simp only [chkS, Bool.and_eq_true] at h
    have e0 : exec G F (.ex e) = fun ρ S => (fzR (ev G F e ρ S)).bind fun _ ρ1 S1 => .ok .nx ρ1 S1 := by funext ρ S; first | (rw [exec]; done) | (rw [exec]; rfl)
    rw [e0]
    exact imS (ps_expr (fz_pe (soundE Gd e x h.1).1) (sw_plain h.2)) ex_im
  | .ifs t a b, st, h => by
    cases st <;> first | (simp [chkS] at h; done) | skip
    rename_i x ys zs pos
    simp only [chkS, Bool.and_eq_true] at h
    obtain ⟨⟨⟨t1, h1⟩, h2⟩, h3⟩ := h
    have e0 : exec G F (.ifs t a b) = fun ρ S => (ev G F t ρ S).bind fun r ρ1 S1 => match r with
      | .v (.d (.bl true)) => execs G F a ρ1 S1
      | .v (.d (.bl false)) => execs G F b ρ1 S1
      | _ => .no := by funext ρ S; first | (rw [exec]; done) | (rw [exec]; rfl)
    rw [e0]
    exact imS (ps_if ((soundE Gd t x h1).2 t1) (soundSs Gd hk hx a ys h2) (soundSs Gd hk hx b zs h3)) if_im
  | .fors t it b, st, h => by
    cases st <;> first | (simp [chkS] at h; done) | skip
    rename_i x i ys os pos
    simp only [chkS, Bool.and_eq_true, List.isEmpty_iff] at h
    obtain ⟨⟨⟨rfl, h1⟩, h2⟩, h3⟩ := h
    have e0 : exec G F (.fors t it b) = fun ρ S => (evI G F it ρ S).bind fun xs ρ1 S1 => loop (fun x ρ S => match bindT t x S ρ with
      | some ρ2 => execs G F b ρ2 S
      | none => .no) xs ρ1 S1 := by funext ρ S; first | (rw [exec]; done) | (rw [exec]; rfl)
    rw [e0]
    exact imS (ps_for hx Gd.calm (soundI Gd it x i h2) (soundT Gd.toFits t x h1) (soundSs Gd hk hx b ys h3) (noSet (chkI_set h2))) for_im
  | .whl t b, st, h => by
    cases st <;> first | (simp [chkS] at h; done) | skip
    rename_i x ys os pos
    simp only [chkS, Bool.and_eq_true, List.isEmpty_iff] at h
    obtain ⟨⟨⟨rfl, t1⟩, h1⟩, h2⟩ := h
    have e0 : exec G F (.whl t b) = fun ρ S => whileN (fun ρ S => fzR (ev G F t ρ S)) (execs G F b) most ρ S := by funext ρ S; first | (rw [exec]; done) | (rw [exec]; rfl)
    rw [e0]
    exact imS (ps_while hx ((soundE Gd t x h1).2 t1) (soundSs Gd hk hx b ys h2)) (while_im most)
  | .ret e, st, h => by
    cases st <;> first | (simp [chkS] at h; done) | skip
    rename_i ox pos
    cases ox with
    | none => simp [chkS] at h
    | some x =>
      simp only [chkS] at h
      by_cases hv : ∃ i, e = .var i
      · obtain ⟨i, rfl⟩ := hv
        cases x <;> first | (simp [chkE] at h; done) | skip
        simp only [chkE] at h
        refine imS (ps_ret (chkV_ok Gd.toFits h)) fun D σ H ⟨g, ρ, S, fl, ρ', S', R, e, a⟩ => ?_
        rw [exec] at e
        split at e
        · rename_i r hr
          cases e
          obtain ⟨v, q1, q2⟩ := R.slot i _ hr
          exact ⟨v, q1, a g H v (Ext.refl _ _) R.noSlots q2⟩
        · cases e
      · have e0 : exec G F (.ret e) = fun ρ S => (ev G F e ρ S).bind fun r ρ1 S1 => .ok (.rt r) ρ1 S1 := by
          funext ρ S
          cases e <;> first | rfl | exact absurd ⟨_, rfl⟩ hv
        rw [e0]
        exact imS (ps_ret (soundE Gd e x h).1) ret_im
  | .pass, st, h => by
    cases st <;> first | (simp [chkS] at h; done) | skip
    refine imS ps_pass fun D σ H ⟨g, ρ, S, fl, ρ', S', R, e, a⟩ => ?_
    rw [exec] at e; cases e
    exact a g H σ (Ext.refl _ _) R
  | .cont, st, h => by
    cases st <;> first | (simp [chkS] at h; done) | skip
    refine imS ps_continue fun D σ H ⟨g, ρ, S, fl, ρ', S', R, e, a⟩ => ?_
    rw [exec] at e; cases e
    exact a g H σ (Ext.refl _ _) R
  | .brk, st, h => by
    cases st <;> first | (simp [chkS] at h; done) | skip
    refine imS ps_break fun D σ H ⟨g, ρ, S, fl, ρ', S', R, e, a⟩ => ?_
    rw [exec] at e; cases e
    exact a g H σ (Ext.refl _ _) R
theorem soundSs (Gd : Good G F k c X) (hk : X.env.scope.kind = .function) (hx : PassesOwn (model X.prog X.w) X.A X.env X.xe) : ∀ (ss : SL) (sts : List Stmt), chkSs c ss sts = true → PSs X sts (TSv X.K (execs G F ss))
  | .nil, sts, h => by
    cases sts with
    | cons a b => simp [chkSs] at h
    | nil =>
      refine imSs pss_nil fun D σ H ⟨g, ρ, S, fl, ρ', S', R, e, a⟩ => ?_
      rw [execs] at e; cases e
      exact a g H σ (Ext.refl _ _) R
  | .cons s ss, sts, h => by
    cases sts with
    | nil => simp [chkSs] at h
    | cons st sts =>
      simp only [chkSs, Bool.and_eq_true] at h
      have e0 : execs G F (.cons s ss) = fun ρ S => (exec G F s ρ S).bind fun fl ρ1 S1 => match fl with
        | .nx => execs G F ss ρ1 S1
        | fl => .ok fl ρ1 S1 := by funext ρ S; first | (rw [execs]; done) | (rw [execs]; rfl)
      rw [e0]
      exact imSs (pss_cons (soundS Gd hk hx s st h.1) (soundSs Gd hk hx ss sts h.2)) seq_im
end
end
end DL

end

section
set_option Elab.async false
set_option linter.all false
set_option autoImplicit false
set_option maxHeartbeats 4000000
/-! DL20: defs are sound. -/
namespace DL
open PySem L2

def Gh.cut (g : Gh) (n : Nat) : Gh := { g with io := g.io.take n }
section
variable {K : Frag} {g : Gh} {H : Hp} {S : Sto} {n : Nat}
theorem RV.cut {u : Vl} {v : V} (h : RV K g H u v) (b : u.below n = true) : RV K (g.cut n) H u v := by
  cases u with
  | d x => exact h
  | scr ns => exact h
  | h m =>
    obtain ⟨a, e1, e2⟩ := h
    have hm : m < n := of_decide_eq_true b
    exact ⟨a, by show (g.io.take n)[m]? = some a; rw [List.getElem?_take_of_lt hm]; exact e1, e2⟩
theorem RVs.cut : ∀ {us : List Vl} {vs : List V}, RVs K g H us vs → us.all (Vl.below n) = true → RVs K (g.cut n) H us vs
  | [], vs, h, _ => h
  | u :: us, vs, h, b => by
    obtain ⟨v, r, e, t, q⟩ := h
    simp only [List.all_cons, Bool.and_eq_true] at b
    exact ⟨v, r, e, t.cut b.1, RVs.cut q b.2⟩
theorem Rel.cut (R : Rel K g H S [] []) (hb : (S.take n).all (MO.below n) = true) : Rel K (g.cut n) H (S.take n) [] [] := by
  refine ⟨rfl, fun i r e => by simp at e, fun i j xs ys v hij e => by simp at e, ?_, R.ion.sublist (List.take_sublist _ _), fun m a mo e1 e2 => ?_, R.fzt, R.prt⟩
  · show (g.io.take n).length = (S.take n).length
    rw [List.length_take, List.length_take, R.iol]
  · have e1 : (g.io.take n)[m]? = some a := e1
    have hm : m < n := by
      have := (List.getElem?_eq_some_iff.mp e1).1
      rw [List.length_take] at this
      omega
    have f1 : g.io[m]? = some a := by rw [List.getElem?_take_of_lt hm] at e1; exact e1
    have f2 : S[m]? = some mo := by rw [List.getElem?_take_of_lt hm] at e2; exact e2
    obtain ⟨q1, q2, q3⟩ := R.sto m a mo f1 f2
    refine ⟨?_, q2, q3⟩
    have hmo := List.all_eq_true.mp hb mo (List.mem_of_getElem? e2)
    cases mo with
    | lst xs =>
      obtain ⟨vs, z1, z2⟩ := q1
      exact ⟨vs, z1, z2.cut hmo⟩
    | ins c fs => exact q1.elim
theorem SlotOk.cut {r : Rv} {v : V} (h : SlotOk K g H r v) (b : r.below n = true) : SlotOk K (g.cut n) H r v := by
  cases r with
  | v x => exact RV.cut h b
  | own xs =>
    obtain ⟨a, vs, e, h1, h2, h3, h4, h5⟩ := h
    exact ⟨a, vs, e, h1, h2.cut b, h3, fun z => h4 (List.mem_of_mem_take z), h5⟩
/-- behind a def's body -/
theorem gc_ok {g0 : Gh} {H0 : Hp} {S0 : Sto} {r : Rv} {v : V} {Q : VK} (R0 : Rel K g0 H0 S0 [] []) (X : Ext g0 H0 g H) (R : Rel K g H S [] []) (h : SlotOk K g H r v)
    (q : ∀ g' H' v, Ext g0 H0 g' H' → Rel K g' H' (gc S0.length r S) [] [] → SlotOk K g' H' r v → Q v H') : Q v H := by
  unfold gc at q
  by_cases hc : (r.below S0.length && (S.take S0.length).all (MO.below S0.length)) = true
  · rw [if_pos hc] at q
    simp only [Bool.and_eq_true] at hc
    refine q (g.cut S0.length) H v ⟨X.pr, X.fz, X.eq, ?_⟩ (R.cut hc.2) (h.cut hc.1)
    show g0.io <+: g.io.take S0.length
    obtain ⟨t, e⟩ := X.io
    rw [← e, ← R0.iol, List.take_left]
    exact List.prefix_refl _
  · rw [if_neg hc] at q
    exact q g H v X R h
theorem RVs.get' : ∀ {us : List Vl} {vs : List V} {i : Nat} {u : Vl}, RVs K g H us vs → us[i]? = some u → ∃ v, vs[i]? = some v ∧ RV K g H u v := RVs.get
theorem Rel.enter {us : List Vl} {vs : List V} {N : List Str} {m : Nat} (R : Rel K g H S [] []) (rv : RVs K g H us vs) (hm : m = N.length - vs.length) :
    Rel K g H S (us.map (fun v => some (Rv.v v)) ++ List.replicate m none) (L2.start N vs) := by
  have own : ∀ {i : Nat} {r : Rv}, (us.map (fun v => some (Rv.v v)) ++ List.replicate m none)[i]? = some (some r) → ∃ u, us[i]? = some u ∧ r = .v u := fun {i r} e => by
    by_cases hi : i < us.length
    · rw [List.getElem?_append_left (by simpa using hi), List.getElem?_map, List.getElem?_eq_getElem hi] at e
      simp at e
      exact ⟨us[i], List.getElem?_eq_getElem hi, e.symm⟩
    · rw [List.getElem?_append_right (by simpa using hi), List.getElem?_replicate] at e
      split at e <;> cases e
  refine ⟨?_, fun i r e => ?_, fun i j xs ys v hij e1 => ?_, R.iol, R.ion, R.sto, R.fzt, R.prt⟩
  · unfold L2.start
    simp [rv.length, hm]
  · obtain ⟨u, e1, rfl⟩ := own e
    obtain ⟨v, e2, rx⟩ := rv.get e1
    refine ⟨v, ?_, rx⟩
    unfold L2.start
    rw [List.getElem?_append_left (by simpa using (List.getElem?_eq_some_iff.mp e2).1), List.getElem?_map, e2]
    rfl
  · obtain ⟨u, _, z⟩ := own e1
    cases z
end

/-- what is the same through the whole law -/
structure Whole (G : Gls) (w : World) (K : Frag) (mg : Str → Option Value) : Prop where
  blt : ∀ x, x ∈ blts → mg x = none
  gl : ∀ x d, G.c x = some d → ∃ u v, mg x = some u ∧ RelV v u ∧ ∀ fz H, RD K fz H d v
  dg : ∀ x kvs, G.d x = some kvs → ∃ a, mg x = some (.ref a) ∧ KD K w a kvs
/-- a def of the text and what it is held against -/
structure Held (K : Frag) (mg : Str → Option Value) (nm : Nat → Option Str) (d : Def) (x : Str) (st : Stmt) (f : Addr) (fd : FuncData) (N ps : List Str) : Prop where
  fn : Fun K x x st f fd
  sc : FnScope N ps (defScope st)
  mg : mg x = some (.ref f)
  bd : Binds K fd ps []
  np : ps.length = d.np
  n : N.length = d.n
  chk : chkSs ⟨N, defScope st, fun _ => true, nm⟩ d.body (defBody st) = true
theorem soundDef {P : Program} {w : World} {K : Frag} {mg : Str → Option Value} {base : Heap} {G : Gls} {F : Fns} {k : Nat} {nm : Nat → Option Str} {d : Def} {x : Str} {st : Stmt} {f : Addr} {fd : FuncData} {N ps : List Str} (W : Whole G w K mg)
    (h : Held K mg nm d x st f fd N ps)
    (df : ∀ g y, nm g = some y → ∃ fa fd ps, mg y = some (.ref fa) ∧ PySem.W.keepIn K (.ref fa) = true ∧ Binds K fd ps [] ∧ FnOk P w K mg base CX0 k fa fd ps (spD K (F g))) :
    FnOk P w K mg base CX0 (k + 1) f fd ps (spD K (runDef G F d)) := by
  refine h.fn.ok h.sc (fun vs H Q E ⟨g, S, us, r, S', R, rv, e, q⟩ => ?_) (fun cdv A outer s H vs Q E hr ⟨g, S, us, r, S', R, rv, e, q⟩ => ?_)
  · unfold runDef at e
    split at e
    · rename_i hl
      rw [rv.length, hl, h.np]
    · cases e
  · have hl : us.length = d.np := by
      unfold runDef at e
      split at e
      · assumption
      · cases e
    have Gd : Good G F k ⟨N, defScope st, fun _ => true, nm⟩ (cxOf CX0 P w K mg base N x (defScope st) f cdv A outer s H E).nox := ⟨⟨rfl, rfl, rfl, h.sc.nd, rfl⟩, hr, W.blt, W.gl, W.dg, df⟩
    refine ⟨TSv K (execs G F d.body), soundSs Gd h.sc.kind PassesOwn.never d.body (defBody st) h.chk, ?_⟩
    unfold runDef at e
    rw [if_pos hl] at e
    have hm : d.n - d.np = N.length - vs.length := by rw [rv.length, hl, h.n]
    split at e
    · rename_i r0 ρ1 S1 e1
      cases e
      exact ⟨g, _, S, _, ρ1, S1, R.enter rv hm, e1, fun g' H' v X' R' hv => gc_ok R X' R' hv q⟩
    · rename_i ρ1 S1 e1
      cases e
      refine ⟨g, _, S, _, ρ1, S1, R.enter rv hm, e1, fun g' H' σ' X' R' => ?_⟩
      exact gc_ok (v := .non) R X' R'.noSlots (by show RD K g'.fz H' .non .non; unfold RD; rfl) q
    · cases e
/-- all defs, to any depth -/
theorem soundAll {P : Program} {w : World} {K : Frag} {mg : Str → Option Value} {base : Heap} {G : Gls} {nm : Nat → Option Str} {T : Nat → Option Def} (W : Whole G w K mg)
    (h : ∀ f x, nm f = some x → ∃ d st fa fd N ps, T f = some d ∧ Held K mg nm d x st fa fd N ps) :
    ∀ (k : Nat) (f : Nat) (x : Str), nm f = some x → ∃ fa fd ps, mg x = some (.ref fa) ∧ PySem.W.keepIn K (.ref fa) = true ∧ Binds K fd ps [] ∧ FnOk P w K mg base CX0 k fa fd ps (spD K (fn G T k f))
  | 0, f, x, e => by
    obtain ⟨d, st, fa, fd, N, ps, hT, hd⟩ := h f x e
    refine ⟨fa, fd, ps, hd.mg, hd.fn.kp, hd.bd, ?_, ?_⟩
    · rintro vs H Q E ⟨g, S, us, r, S', R, rv, e, q⟩
      cases e
    · rintro A outer s H args us vs Q E _ _ _ _ ⟨g, S, us, r, S', R, rv, e, q⟩
      cases e
  | k + 1, f, x, e => by
    obtain ⟨d, st, fa, fd, N, ps, hT, hd⟩ := h f x e
    refine ⟨fa, fd, ps, hd.mg, hd.fn.kp, hd.bd, ?_⟩
    have hs := soundDef (P := P) (w := w) (base := base) (F := fn G T k) (k := k) W hd fun g y ey => soundAll W h k g y ey
    have e0 : fn G T (k + 1) f = runDef G (fn G T k) d := by funext us S; unfold fn; rw [hT]
    rw [e0]
    exact hs
end DL

end

section
set_option Elab.async false
set_option linter.all false
set_option autoImplicit false
set_option maxHeartbeats 4000000
/-! DL21: a law's end. -/
namespace DL
open PySem L2

/-- a def stands behind the top as the text says -/
def DefAt (K : Frag) (x : Str) (st : Stmt) : Prop := ∃ (f : Addr) (oc : Value) (od : Option Addr) (sl : Array (Option Value)) (kV dc pm : Value) (an : Option Addr) (cd ct : Value),
  PySem.W.nsIn K mainGlobals x = some (some (.ref f)) ∧ K.lookup f = some ⟨oc, od, .func (PySem.W.fnOf x x (defArgs st) (defBody st) (defScope st) .none kV dc pm an cd ct), sl⟩ ∧ PySem.W.codeIn K cd x = true ∧ PySem.W.keepIn K (.ref f) = true
def BindOk (x : Str) (st : Stmt) (ps : List Str) : Prop := ∀ (kV doc pm : Value) (an : Option Addr) (cdv ct : Value) (us : List Value), us.length = ps.length → bindArgs (PySem.W.fnOf x x (defArgs st) (defBody st) (defScope st) .none kV doc pm an cdv ct) ⟨us, []⟩ = pure (ps.zip us)
/-- what is shown of a def without the heap -/
structure Text (nm : Nat → Option Str) (d : Def) (x : Str) (st : Stmt) (N ps : List Str) : Prop where
  sc : FnScope N ps (defScope st)
  bd : BindOk x st ps
  np : ps.length = d.np
  n : N.length = d.n
  chk : chkSs ⟨N, defScope st, fun _ => true, nm⟩ d.body (defBody st) = true
theorem Text.held {K : Frag} {h : Heap} {mg : Str → Option Value} {nm : Nat → Option Str} {d : Def} {x : Str} {st : Stmt} {N ps : List Str} (X : K.In h) (G : h.Ns mainGlobals mg) (T : Text nm d x st N ps) (D : DefAt K x st) :
    ∃ f fd, Held K mg nm d x st f fd N ps := by
  obtain ⟨f, oc, od, sl, kV, dc, pm, an, cd, ct, a, l, c, k⟩ := D
  have F := fun_mk (st := st) l c k
  exact ⟨f, _, F, T.sc, PySem.W.mg_of X G a, F.binds T.bd, T.np, T.n, T.chk⟩
theorem law_end {l : PySem.W.OpenLaw} {w : World} {K : Frag} {h : Heap} {mg : Str → Option Value} {fa : Addr} {GL : Gls} {nm : Nat → Option Str} {T : Nat → Option Def} {L k : Nat} {x p : Str} (X : K.In h) (G : h.Ns mainGlobals mg) (hfa : mg x = some (.ref fa)) (W : Whole GL w K mg)
    (hd : ∀ f y, nm f = some y → ∃ d st N ps, T f = some d ∧ DefAt K y st ∧ Text nm d y st N ps) {d : Def} {st : Stmt} {N : List Str} (h1 : T L = some d) (h2 : DefAt K x st) (h3 : Text nm d x st N [p]) :
    ∃ fd : FuncData, (∀ (s : Shared) (v : Value), BindsTo s fd ⟨[v], []⟩ [(p, v)]) ∧ ∀ base : Heap, K.In base → base.Ns mainGlobals mg → FnOk l.prog w K mg base CX0 k fa fd [p] (spD K (fn GL T k L)) := by
  have hh : ∀ f y, nm f = some y → ∃ d st fa fd N ps, T f = some d ∧ Held K mg nm d y st fa fd N ps := fun f y e => by
    obtain ⟨d, st, N, ps, h1, h2, h3⟩ := hd f y e
    obtain ⟨f', fd, h4⟩ := h3.held X G h2
    exact ⟨d, st, f', fd, N, ps, h1, h4⟩
  obtain ⟨f, oc, od, sl, kV, dc, pm, an, cd, ct, a, lk, c, kk⟩ := h2
  have F := fun_mk (st := st) lk c kk
  have e := hfa.symm.trans (PySem.W.mg_of X G a)
  cases e
  refine ⟨PySem.W.fnOf x x (defArgs st) (defBody st) (defScope st) .none kV dc pm an cd ct, fun s v => .of_eq (h3.bd kV dc pm an cd ct [v] rfl), fun base K1 G1 => ?_⟩
  · have B := soundAll (P := l.prog) (w := w) (base := base) W hh
    cases k with
    | zero =>
      refine ⟨?_, ?_⟩
      · rintro vs H Q E ⟨g, S, us, r, S', R, rv, e, q⟩
        cases e
      · rintro A outer s H args us vs Q E _ _ _ _ ⟨g, S, us, r, S', R, rv, e, q⟩
        cases e
    | succ k =>
      have hs := soundDef (P := l.prog) (w := w) (base := base) (F := fn GL T k) (k := k) W ⟨F, h3.sc, PySem.W.mg_of X G a, F.binds h3.bd, h3.np, h3.n, h3.chk⟩ fun g y ey => B k g y ey
      have e0 : fn GL T (k + 1) L = runDef GL (fn GL T k) d := by funext us S; unfold fn; rw [h1]
      rw [e0]
      exact hs
/-- the law's promise, at the script -/
theorem law_sp {K : Frag} {H : Hp} {a : Addr} {ns : List Int} {f : List Vl → Sto → Option (Rv × Sto)} {S' : Sto} {E : XK} (hO : Only H) (hS : SqL K H a (ns.map V.int)) (hf : f [.scr ns] [] = some (vD (.bl true), S')) :
    spD K f [.ref a] H (fun v _ => v = .bl true) E := by
  refine ⟨⟨fun _ _ => False, fun b => b = a ∧ ∃ o, H a = some o, []⟩, [], [.scr ns], _, _, ⟨rfl, fun i r e => by simp at e, fun i j xs ys v hij e => by simp at e, rfl, List.nodup_nil, fun n b mo e => by simp at e, ?_, fun b o h => h.elim⟩, ?_, hf, fun g' H' v X' R' h => ?_⟩
  · rintro b ⟨rfl, o, e⟩
    exact ⟨o, e⟩
  · refine ⟨.ref a, [], rfl, ⟨a, rfl, ?_⟩, rfl⟩
    rcases hS with hS | hS
    · refine .inl ⟨⟨rfl, ?_⟩, hS⟩
      rcases hS with q | ⟨o, q⟩
      · exact ⟨_, q⟩
      · exact ⟨_, q⟩
    · exact .inr hS
  · have h : RD K g'.fz H' (.bl true) v := h
    unfold RD at h; exact h
end DL
namespace DL
open PySem L2
theorem defAt_mk {K : Frag} {x : Str} {st : Stmt} {f : Addr} {oc : Value} {od an : Option Addr} {sl : Array (Option Value)} {kV dc pm cd ct : Value} (a : PySem.W.nsIn K mainGlobals x = some (some (.ref f)))
    (l : K.lookup f = some ⟨oc, od, .func (PySem.W.fnOf x x (defArgs st) (defBody st) (defScope st) .none kV dc pm an cd ct), sl⟩) (c : PySem.W.codeIn K cd x = true) (k : PySem.W.keepIn K (.ref f) = true) : DefAt K x st :=
  ⟨f, oc, od, sl, kV, dc, pm, an, cd, ct, a, l, c, k⟩
end DL

end

section
set_option Elab.async false
set_option linter.all false
/-! DLsim: the evaluator's steps for simp, each continuation a name of its own. -/
namespace DL
open PySem
section
variable {G : Gls} {F : Fns} {ρ ρ1 : Env} {S : Sto}
@[simp] theorem fzR_v (x : Vl) (ρ : Env) (S : Sto) : fzR (.ok (.v x) ρ S) = .ok x ρ S := rfl
@[simp] theorem fzR_o (xs : List Vl) (ρ : Env) (S : Sto) : fzR (.ok (.own xs) ρ S) = match datas xs with
    | some ds => .ok (.d (.lst ds)) ρ S
    | none => .no := by
  unfold fzR; simp only [R.bind_ok, Rv.fz]; cases datas xs <;> rfl
@[simp] theorem fzR_ownD (xs : List D) (ρ : Env) (S : Sto) : fzR (.ok (ownD xs) ρ S) = .ok (.d (.lst xs)) ρ S := by simp [ownD]
@[simp] theorem fz_v (x : Vl) : (Rv.v x).fz = some x := rfl
@[simp] theorem fz_ownD (xs : List D) : (ownD xs).fz = some (.d (.lst xs)) := by simp [ownD, Rv.fz]
/-! expressions -/
@[simp] theorem ev_var {i : Nat} : ev G F (.var i) ρ S = match grab ρ i with
    | some (v, ρ1) => .ok (.v v) ρ1 S
    | none => .no := by rw [ev] <;> rfl
@[simp] theorem ev_glob {x : Str} : ev G F (.glob x) ρ S = match G.c x with
    | some d => .ok (vD d) ρ S
    | none => .no := by rw [ev] <;> rfl
def kGd (o : Option (List (Str × D))) : Vl → Env → Sto → R Rv := fun v ρ S => lift (gdGet o v) ρ S
@[simp] theorem kGd_at {o : Option (List (Str × D))} {v : Vl} : kGd o v ρ S = lift (gdGet o v) ρ S := rfl
@[simp] theorem ev_gd {x : Str} {e : E} : ev G F (.gd x e) ρ S = (fzR (ev G F e ρ S)).bind (kGd (G.d x)) := by rw [ev] <;> rfl
def kGin (neg : Bool) (o : Option (List (Str × D))) : Vl → Env → Sto → R Rv := fun v ρ S => lift (gdIn neg o v) ρ S
@[simp] theorem kGin_at {neg : Bool} {o : Option (List (Str × D))} {v : Vl} : kGin neg o v ρ S = lift (gdIn neg o v) ρ S := rfl
@[simp] theorem ev_gin {neg : Bool} {x : Str} {e : E} : ev G F (.gin neg x e) ρ S = (fzR (ev G F e ρ S)).bind (kGin neg (G.d x)) := by rw [ev] <;> rfl
@[simp] theorem ev_glen {x : Str} : ev G F (.glen x) ρ S = lift (gdLen (G.d x)) ρ S := by rw [ev] <;> rfl
@[simp] theorem ev_cst {c : D} : ev G F (.cst c) ρ S = .ok (vD c) ρ S := by rw [ev]
def kOp (o : Op) : List Vl → Env → Sto → R Rv := fun vs ρ S => lift (prim o vs S) ρ S
@[simp] theorem kOp_at {o : Op} {vs : List Vl} : kOp o vs ρ S = lift (prim o vs S) ρ S := rfl
@[simp] theorem ev_op {o : Op} {as : AL} : ev G F (.op o as) ρ S = (evA G F as ρ S).bind (kOp o) := by rw [ev] <;> rfl
def kAnd (G : Gls) (F : Fns) (b : E) : Rv → Env → Sto → R Rv := fun r ρ1 S1 => match r with
    | .v (.d (.bl true)) => ev G F b ρ1 S1
    | .v (.d (.bl false)) => .ok (vD (.bl false)) ρ1 S1
    | _ => .no
@[simp] theorem kAnd_t {b : E} : kAnd G F b (.v (.d (.bl true))) ρ S = ev G F b ρ S := rfl
@[simp] theorem kAnd_f {b : E} : kAnd G F b (.v (.d (.bl false))) ρ S = .ok (vD (.bl false)) ρ S := rfl
@[simp] theorem ev_and {a b : E} : ev G F (.and a b) ρ S = (ev G F a ρ S).bind (kAnd G F b) := by rw [ev] <;> rfl
def kOr (G : Gls) (F : Fns) (b : E) : Rv → Env → Sto → R Rv := fun r ρ1 S1 => match r with
    | .v (.d (.bl true)) => .ok (vD (.bl true)) ρ1 S1
    | .v (.d (.bl false)) => ev G F b ρ1 S1
    | _ => .no
@[simp] theorem kOr_t {b : E} : kOr G F b (.v (.d (.bl true))) ρ S = .ok (vD (.bl true)) ρ S := rfl
@[simp] theorem kOr_f {b : E} : kOr G F b (.v (.d (.bl false))) ρ S = ev G F b ρ S := rfl
@[simp] theorem ev_or {a b : E} : ev G F (.or a b) ρ S = (ev G F a ρ S).bind (kOr G F b) := by rw [ev] <;> rfl
def kNot : Rv → Env → Sto → R Rv := fun r ρ1 S1 => match r with
    | .v (.d (.bl b)) => .ok (vD (.bl (!b))) ρ1 S1
    | _ => .no
@[simp] theorem kNot_at {b : Bool} : kNot (.v (.d (.bl b))) ρ S = .ok (vD (.bl (!b))) ρ S := rfl
@[simp] theorem ev_not {a : E} : ev G F (.not a) ρ S = (ev G F a ρ S).bind kNot := by rw [ev] <;> rfl
def kIte (G : Gls) (F : Fns) (a b : E) : Rv → Env → Sto → R Rv := fun r ρ1 S1 => match r with
    | .v (.d (.bl true)) => ev G F a ρ1 S1
    | .v (.d (.bl false)) => ev G F b ρ1 S1
    | _ => .no
@[simp] theorem kIte_t {a b : E} : kIte G F a b (.v (.d (.bl true))) ρ S = ev G F a ρ S := rfl
@[simp] theorem kIte_f {a b : E} : kIte G F a b (.v (.d (.bl false))) ρ S = ev G F b ρ S := rfl
@[simp] theorem ev_ite {c a b : E} : ev G F (.ite c a b) ρ S = (ev G F c ρ S).bind (kIte G F a b) := by rw [ev] <;> rfl
def kTup : List Vl → Env → Sto → R Rv := fun vs ρ1 S1 => match datas vs with
    | some ds => .ok (vD (.tup ds)) ρ1 S1
    | none => .no
@[simp] theorem kTup_at {vs : List Vl} : kTup vs ρ S = match datas vs with
    | some ds => .ok (vD (.tup ds)) ρ S
    | none => .no := rfl
@[simp] theorem ev_tup {es : EL} : ev G F (.tup es) ρ S = (evL G F es ρ S).bind kTup := by rw [ev] <;> rfl
def kLst : List Vl → Env → Sto → R Rv := fun vs ρ1 S1 => .ok (.own vs) ρ1 S1
@[simp] theorem kLst_at {vs : List Vl} : kLst vs ρ S = .ok (.own vs) ρ S := rfl
@[simp] theorem ev_lst {es : EL} : ev G F (.lst es) ρ S = (evL G F es ρ S).bind kLst := by rw [ev] <;> rfl
def kNewL : List Vl → Env → Sto → R Rv := fun vs ρ1 S1 => .ok (.v (.h S1.length)) ρ1 (S1 ++ [.lst vs])
@[simp] theorem kNewL_at {vs : List Vl} : kNewL vs ρ S = .ok (.v (.h S.length)) ρ (S ++ [.lst vs]) := rfl
@[simp] theorem ev_newL {es : EL} : ev G F (.newL es) ρ S = (evL G F es ρ S).bind kNewL := by rw [ev] <;> rfl
def kCall (F : Fns) (f : Nat) : List Vl → Env → Sto → R Rv := fun vs ρ1 S1 => match F f vs S1 with
    | some (r, S2) => .ok r ρ1 S2
    | none => .no
@[simp] theorem kCall_at {f : Nat} {vs : List Vl} : kCall F f vs ρ S = match F f vs S with
    | some (r, S2) => .ok r ρ S2
    | none => .no := rfl
@[simp] theorem ev_call {f : Nat} {es : EL} : ev G F (.call f es) ρ S = (evL G F es ρ S).bind (kCall F f) := by rw [ev] <;> rfl
/-! comprehensions -/
def kSome : Vl → Env → Sto → R (Option Vl) := fun v ρ3 S3 => .ok (some v) ρ3 S3
@[simp] theorem kSome_at {v : Vl} : kSome v ρ S = .ok (some v) ρ S := rfl
def kCf (G : Gls) (F : Fns) (elt : E) (S : Sto) : Option Env → R (Option Vl)
  | some ρ2 => (fzR (ev G F elt ρ2 S)).bind kSome
  | none => .no
@[simp] theorem kCf_some {elt : E} : kCf G F elt S (some ρ) = (fzR (ev G F elt ρ S)).bind kSome := rfl
@[simp] theorem kCf_none {elt : E} : kCf G F elt S none = .no := rfl
/-- a comprehension's turn -/
def cf (G : Gls) (F : Fns) (tg : TG) (elt : E) (own : List Nat) : Vl → Env → Sto → R (Option Vl) := fun x ρ S => match bindT tg x S (wipe ρ own) with
  | some ρ2 => (fzR (ev G F elt ρ2 S)).bind fun v ρ3 S3 => .ok (some v) ρ3 S3
  | none => .no
theorem cf_at {tg : TG} {elt : E} {own : List Nat} {x : Vl} : cf G F tg elt own x ρ S = kCf G F elt S (bindT tg x S (wipe ρ own)) := by
  unfold cf; cases bindT tg x S (wipe ρ own) <;> rfl
def kCnd (G : Gls) (F : Fns) (elt : E) : Rv → Env → Sto → R (Option Vl) := fun r ρ3 S3 => match r with
    | .v (.d (.bl true)) => (fzR (ev G F elt ρ3 S3)).bind kSome
    | .v (.d (.bl false)) => .ok none ρ3 S3
    | _ => .no
@[simp] theorem kCnd_t {elt : E} : kCnd G F elt (.v (.d (.bl true))) ρ S = (fzR (ev G F elt ρ S)).bind kSome := rfl
@[simp] theorem kCnd_f {elt : E} : kCnd G F elt (.v (.d (.bl false))) ρ S = .ok none ρ S := rfl
def kCfI (G : Gls) (F : Fns) (c elt : E) (S : Sto) : Option Env → R (Option Vl)
  | some ρ2 => (ev G F c ρ2 S).bind (kCnd G F elt)
  | none => .no
@[simp] theorem kCfI_some {c elt : E} : kCfI G F c elt S (some ρ) = (ev G F c ρ S).bind (kCnd G F elt) := rfl
@[simp] theorem kCfI_none {c elt : E} : kCfI G F c elt S none = .no := rfl
def cfI (G : Gls) (F : Fns) (tg : TG) (c elt : E) (own : List Nat) : Vl → Env → Sto → R (Option Vl) := fun x ρ S => match bindT tg x S (wipe ρ own) with
  | some ρ2 => (ev G F c ρ2 S).bind fun r ρ3 S3 => match r with
    | .v (.d (.bl true)) => (fzR (ev G F elt ρ3 S3)).bind fun v ρ4 S4 => .ok (some v) ρ4 S4
    | .v (.d (.bl false)) => .ok none ρ3 S3
    | _ => .no
  | none => .no
theorem cfI_at {tg : TG} {c elt : E} {own : List Nat} {x : Vl} : cfI G F tg c elt own x ρ S = kCfI G F c elt S (bindT tg x S (wipe ρ own)) := by
  unfold cfI; cases bindT tg x S (wipe ρ own) <;> rfl
def kUnw (ρ1 : Env) (own : List Nat) : List Vl → Env → Sto → R Rv := fun acc ρ2 S2 => .ok (.own acc) (unwipe ρ1 ρ2 own) S2
@[simp] theorem kUnw_at {own : List Nat} {acc : List Vl} : kUnw ρ1 own acc ρ S = .ok (.own acc) (unwipe ρ1 ρ own) S := rfl
def kUnwN (ρ1 : Env) (own : List Nat) : List Vl → Env → Sto → R Rv := fun acc ρ2 S2 => .ok (.v (.h S2.length)) (unwipe ρ1 ρ2 own) (S2 ++ [.lst acc])
@[simp] theorem kUnwN_at {own : List Nat} {acc : List Vl} : kUnwN ρ1 own acc ρ S = .ok (.v (.h S.length)) (unwipe ρ1 ρ own) (S ++ [.lst acc]) := rfl
def kComp (G : Gls) (F : Fns) (tg : TG) (elt : E) (own : List Nat) : List Vl → Env → Sto → R Rv := fun xs ρ1 S1 =>
    if noOwn ρ1 own then (turns (cf G F tg elt own) xs [] ρ1 S1).bind (kUnw ρ1 own) else .no
@[simp] theorem kComp_at {tg : TG} {elt : E} {own : List Nat} {xs : List Vl} : kComp G F tg elt own xs ρ S = if noOwn ρ own then (turns (cf G F tg elt own) xs [] ρ S).bind (kUnw ρ own) else .no := rfl
@[simp] theorem ev_comp {tg : TG} {it : IT} {elt : E} {own : List Nat} : ev G F (.comp tg it elt own) ρ S = (evI G F it ρ S).bind (kComp G F tg elt own) := by rw [ev] <;> rfl
def kCompI (G : Gls) (F : Fns) (tg : TG) (c elt : E) (own : List Nat) : List Vl → Env → Sto → R Rv := fun xs ρ1 S1 =>
    if noOwn ρ1 own then (turns (cfI G F tg c elt own) xs [] ρ1 S1).bind (kUnw ρ1 own) else .no
@[simp] theorem kCompI_at {tg : TG} {c elt : E} {own : List Nat} {xs : List Vl} : kCompI G F tg c elt own xs ρ S = if noOwn ρ own then (turns (cfI G F tg c elt own) xs [] ρ S).bind (kUnw ρ own) else .no := rfl
@[simp] theorem ev_compIf {tg : TG} {it : IT} {c elt : E} {own : List Nat} : ev G F (.compIf tg it c elt own) ρ S = (evI G F it ρ S).bind (kCompI G F tg c elt own) := by rw [ev] <;> rfl
def kNewC (G : Gls) (F : Fns) (tg : TG) (elt : E) (own : List Nat) : List Vl → Env → Sto → R Rv := fun xs ρ1 S1 =>
    if noOwn ρ1 own then (turns (cf G F tg elt own) xs [] ρ1 S1).bind (kUnwN ρ1 own) else .no
@[simp] theorem kNewC_at {tg : TG} {elt : E} {own : List Nat} {xs : List Vl} : kNewC G F tg elt own xs ρ S = if noOwn ρ own then (turns (cf G F tg elt own) xs [] ρ S).bind (kUnwN ρ own) else .no := rfl
@[simp] theorem ev_newC {tg : TG} {it : IT} {elt : E} {own : List Nat} : ev G F (.newC tg it elt own) ρ S = (evI G F it ρ S).bind (kNewC G F tg elt own) := by rw [ev] <;> rfl
/-! operands -/
def kA2 (v : Vl) : List Vl → Env → Sto → R (List Vl) := fun vs ρ2 S2 => .ok (v :: vs) ρ2 S2
@[simp] theorem kA2_at {v : Vl} {vs : List Vl} : kA2 v vs ρ S = .ok (v :: vs) ρ S := rfl
def kA1 (G : Gls) (F : Fns) (as : AL) : Vl → Env → Sto → R (List Vl) := fun v ρ1 S1 => (evA G F as ρ1 S1).bind (kA2 v)
@[simp] theorem kA1_at {as : AL} {v : Vl} : kA1 G F as v ρ S = (evA G F as ρ S).bind (kA2 v) := rfl
@[simp] theorem evA_nil : evA G F .nil ρ S = .ok [] ρ S := by rw [evA]
@[simp] theorem evA_e {x : E} {as : AL} : evA G F (.e x as) ρ S = (fzR (ev G F x ρ S)).bind (kA1 G F as) := by rw [evA] <;> rfl
def kPk (i : Nat) : List Vl → Env → Sto → R (List Vl) := fun vs ρ1 S1 => match peek ρ1 i with
    | some v => .ok (v :: vs) ρ1 S1
    | none => .no
@[simp] theorem kPk_at {i : Nat} {vs : List Vl} : kPk i vs ρ S = match peek ρ i with
    | some v => .ok (v :: vs) ρ S
    | none => .no := rfl
@[simp] theorem evA_pk {i : Nat} {as : AL} : evA G F (.pk i as) ρ S = match ρ[i]? with
    | some (some _) => (evA G F as ρ S).bind (kPk i)
    | _ => .no := by rw [evA] <;> rfl
def kL1 (G : Gls) (F : Fns) (es : EL) : Vl → Env → Sto → R (List Vl) := fun v ρ1 S1 => (evL G F es ρ1 S1).bind (kA2 v)
@[simp] theorem kL1_at {es : EL} {v : Vl} : kL1 G F es v ρ S = (evL G F es ρ S).bind (kA2 v) := rfl
@[simp] theorem evL_nil : evL G F .nil ρ S = .ok [] ρ S := by rw [evL]
@[simp] theorem evL_cons {x : E} {es : EL} : evL G F (.cons x es) ρ S = (fzR (ev G F x ρ S)).bind (kL1 G F es) := by rw [evL] <;> rfl
def kSeq : Vl → Env → Sto → R (List Vl) := fun v ρ1 S1 => lift (items v S1) ρ1 S1
@[simp] theorem kSeq_at {v : Vl} : kSeq v ρ S = lift (items v S) ρ S := rfl
@[simp] theorem evI_seq {e : E} : evI G F (.seq e) ρ S = (fzR (ev G F e ρ S)).bind kSeq := by rw [evI] <;> rfl
def kRng : Vl → Env → Sto → R (List Vl) := fun v ρ1 S1 => match v with
    | .d (.int n) => if decide (-1000000 ≤ n) && decide (n ≤ 1000000) then .ok (nats n.toNat) ρ1 S1 else .no
    | _ => .no
@[simp] theorem kRng_at {n : Int} : kRng (.d (.int n)) ρ S = if decide (-1000000 ≤ n) && decide (n ≤ 1000000) then .ok (nats n.toNat) ρ S else .no := rfl
@[simp] theorem evI_rng {e : E} : evI G F (.rng e) ρ S = (fzR (ev G F e ρ S)).bind kRng := by rw [evI] <;> rfl
def kZip2 (v : Vl) : Vl → Env → Sto → R (List Vl) := fun w ρ2 S2 => lift (zipI v w) ρ2 S2
@[simp] theorem kZip2_at {v w : Vl} : kZip2 v w ρ S = lift (zipI v w) ρ S := rfl
def kZip1 (G : Gls) (F : Fns) (b : E) : Vl → Env → Sto → R (List Vl) := fun v ρ1 S1 => (fzR (ev G F b ρ1 S1)).bind (kZip2 v)
@[simp] theorem kZip1_at {b : E} {v : Vl} : kZip1 G F b v ρ S = (fzR (ev G F b ρ S)).bind (kZip2 v) := rfl
@[simp] theorem evI_zip {a b : E} : evI G F (.zip a b) ρ S = (fzR (ev G F a ρ S)).bind (kZip1 G F b) := by rw [evI] <;> rfl
/-! statements -/
def kAsg (i : Nat) : Rv → Env → Sto → R Fl := fun r ρ1 S1 => .ok .nx (ρ1.set i (some r)) S1
@[simp] theorem kAsg_at {i : Nat} {r : Rv} : kAsg i r ρ S = .ok .nx (ρ.set i (some r)) S := rfl
@[simp] theorem exec_asg {i : Nat} {e : E} : exec G F (.asg (.nm i) e) ρ S = (ev G F e ρ S).bind (kAsg i) := by rw [exec] <;> rfl
def kAsgT (ts : TGL) : Vl → Env → Sto → R Fl := fun v ρ1 S1 => match bindT (.tp ts) v S1 ρ1 with
    | some ρ2 => .ok .nx ρ2 S1
    | none => .no
@[simp] theorem kAsgT_at {ts : TGL} {v : Vl} : kAsgT ts v ρ S = match bindT (.tp ts) v S ρ with
    | some ρ2 => .ok .nx ρ2 S
    | none => .no := rfl
@[simp] theorem exec_asgT {ts : TGL} {e : E} : exec G F (.asg (.tp ts) e) ρ S = (fzR (ev G F e ρ S)).bind (kAsgT ts) := by rw [exec] <;> rfl
def kSet2 (i : Nat) (v : Vl) : Vl → Env → Sto → R Fl := fun k ρ2 S2 => match k, ρ2[i]? with
      | .d (.int j), some (some (.own xs)) => match L2.ixN xs.length j with
        | some m => .ok .nx (ρ2.set i (some (.own (xs.set m v)))) S2
        | none => .no
      | .d (.int j), some (some (.v (.h n))) => match S2[n]? with
        | some (.lst xs) => match L2.ixN xs.length j with
          | some m => .ok .nx ρ2 (S2.set n (.lst (xs.set m v)))
          | none => .no
        | _ => .no
      | _, _ => .no
@[simp] theorem kSet2_at {i : Nat} {v : Vl} {j : Int} : kSet2 i v (.d (.int j)) ρ S = match ρ[i]? with
      | some (some (.own xs)) => (match L2.ixN xs.length j with
        | some m => .ok .nx (ρ.set i (some (.own (xs.set m v)))) S
        | none => .no)
      | some (some (.v (.h n))) => (match S[n]? with
        | some (.lst xs) => (match L2.ixN xs.length j with
          | some m => .ok .nx ρ (S.set n (.lst (xs.set m v)))
          | none => .no)
        | _ => .no)
      | _ => .no := by
  unfold kSet2
  rcases h : ρ[i]? with _ | _ | r
  · rfl
  · rfl
  · rcases r with x | x
    · rcases x with x | x | x <;> rfl
    · rfl
def kSet1 (G : Gls) (F : Fns) (i : Nat) (ix : E) : Vl → Env → Sto → R Fl := fun v ρ1 S1 => match ρ1[i]? with
    | some (some _) => (fzR (ev G F ix ρ1 S1)).bind (kSet2 i v)
    | _ => .no
@[simp] theorem kSet1_at {i : Nat} {ix : E} {v : Vl} : kSet1 G F i ix v ρ S = match ρ[i]? with
    | some (some _) => (fzR (ev G F ix ρ S)).bind (kSet2 i v)
    | _ => .no := rfl
@[simp] theorem exec_setIx {i : Nat} {ix e : E} : exec G F (.setIx i ix e) ρ S = (fzR (ev G F e ρ S)).bind (kSet1 G F i ix) := by rw [exec] <;> rfl
def kApp (i : Nat) : Vl → Env → Sto → R Fl := fun v ρ1 S1 => match ρ1[i]? with
      | some (some (.own xs)) => if xs.length < big then .ok .nx (ρ1.set i (some (.own (xs ++ [v])))) S1 else .no
      | _ => .no
@[simp] theorem kApp_at {i : Nat} {v : Vl} : kApp i v ρ S = match ρ[i]? with
      | some (some (.own xs)) => if xs.length < big then .ok .nx (ρ.set i (some (.own (xs ++ [v])))) S else .no
      | _ => .no := rfl
@[simp] theorem exec_app {i : Nat} {e : E} : exec G F (.app i e) ρ S = match ρ[i]? with
    | some (some (.own _)) => (fzR (ev G F e ρ S)).bind (kApp i)
    | _ => .no := by rw [exec] <;> rfl
def kPar2 (i j : Nat) (v : Vl) : Vl → Env → Sto → R Fl := fun w ρ2 S2 => .ok .nx ((ρ2.set i (some (.v v))).set j (some (.v w))) S2
@[simp] theorem kPar2_at {i j : Nat} {v w : Vl} : kPar2 i j v w ρ S = .ok .nx ((ρ.set i (some (.v v))).set j (some (.v w))) S := rfl
def kPar1 (G : Gls) (F : Fns) (i j : Nat) (b : E) : Vl → Env → Sto → R Fl := fun v ρ1 S1 => (fzR (ev G F b ρ1 S1)).bind (kPar2 i j v)
@[simp] theorem kPar1_at {i j : Nat} {b : E} {v : Vl} : kPar1 G F i j b v ρ S = (fzR (ev G F b ρ S)).bind (kPar2 i j v) := rfl
@[simp] theorem exec_par {i j : Nat} {a b : E} : exec G F (.par i j a b) ρ S = (fzR (ev G F a ρ S)).bind (kPar1 G F i j b) := by rw [exec] <;> rfl
def kEx : Vl → Env → Sto → R Fl := fun _ ρ1 S1 => .ok .nx ρ1 S1
@[simp] theorem kEx_at {v : Vl} : kEx v ρ S = .ok .nx ρ S := rfl
@[simp] theorem exec_ex {e : E} : exec G F (.ex e) ρ S = (fzR (ev G F e ρ S)).bind kEx := by rw [exec] <;> rfl
def kIf (G : Gls) (F : Fns) (a b : SL) : Rv → Env → Sto → R Fl := fun r ρ1 S1 => match r with
    | .v (.d (.bl true)) => execs G F a ρ1 S1
    | .v (.d (.bl false)) => execs G F b ρ1 S1
    | _ => .no
@[simp] theorem kIf_t {a b : SL} : kIf G F a b (.v (.d (.bl true))) ρ S = execs G F a ρ S := rfl
@[simp] theorem kIf_f {a b : SL} : kIf G F a b (.v (.d (.bl false))) ρ S = execs G F b ρ S := rfl
@[simp] theorem exec_ifs {c : E} {a b : SL} : exec G F (.ifs c a b) ρ S = (ev G F c ρ S).bind (kIf G F a b) := by rw [exec] <;> rfl
def lf (G : Gls) (F : Fns) (t : TG) (b : SL) : Vl → Env → Sto → R Fl := fun x ρ S => match bindT t x S ρ with
  | some ρ2 => execs G F b ρ2 S
  | none => .no
theorem lf_at {t : TG} {b : SL} {x : Vl} : lf G F t b x ρ S = match bindT t x S ρ with
  | some ρ2 => execs G F b ρ2 S
  | none => .no := rfl
def kFor (G : Gls) (F : Fns) (t : TG) (b : SL) : List Vl → Env → Sto → R Fl := fun xs ρ1 S1 => loop (lf G F t b) xs ρ1 S1
@[simp] theorem kFor_at {t : TG} {b : SL} {xs : List Vl} : kFor G F t b xs ρ S = loop (lf G F t b) xs ρ S := rfl
@[simp] theorem exec_fors {t : TG} {it : IT} {b : SL} : exec G F (.fors t it b) ρ S = (evI G F it ρ S).bind (kFor G F t b) := by rw [exec] <;> rfl
def kLoop (f : Vl → Env → Sto → R Fl) (xs : List Vl) : Fl → Env → Sto → R Fl := fun fl ρ1 S1 => match fl with
    | .nx => loop f xs ρ1 S1
    | .ct => loop f xs ρ1 S1
    | .bk => .ok .nx ρ1 S1
    | .rt r => .ok (.rt r) ρ1 S1
@[simp] theorem kLoop_nx {f : Vl → Env → Sto → R Fl} {xs : List Vl} : kLoop f xs .nx ρ S = loop f xs ρ S := rfl
@[simp] theorem kLoop_ct {f : Vl → Env → Sto → R Fl} {xs : List Vl} : kLoop f xs .ct ρ S = loop f xs ρ S := rfl
@[simp] theorem kLoop_bk {f : Vl → Env → Sto → R Fl} {xs : List Vl} : kLoop f xs .bk ρ S = .ok .nx ρ S := rfl
@[simp] theorem kLoop_rt {f : Vl → Env → Sto → R Fl} {xs : List Vl} {r : Rv} : kLoop f xs (.rt r) ρ S = .ok (.rt r) ρ S := rfl
theorem loop_nil {f : Vl → Env → Sto → R Fl} : loop f [] ρ S = .ok .nx ρ S := rfl
theorem loop_cons {f : Vl → Env → Sto → R Fl} {x : Vl} {xs : List Vl} : loop f (x :: xs) ρ S = (f x ρ S).bind (kLoop f xs) := by rw [loop] <;> rfl
def kRet : Rv → Env → Sto → R Fl := fun r ρ1 S1 => .ok (.rt r) ρ1 S1
@[simp] theorem kRet_at {r : Rv} : kRet r ρ S = .ok (.rt r) ρ S := rfl
@[simp] theorem exec_retv {i : Nat} : exec G F (.ret (.var i)) ρ S = match ρ[i]? with
    | some (some r) => .ok (.rt r) ρ S
    | _ => .no := by rw [exec] <;> rfl
def E.isVar : E → Bool
  | .var _ => true
  | _ => false
theorem exec_ret {e : E} (h : e.isVar = false) : exec G F (.ret e) ρ S = (ev G F e ρ S).bind kRet := by
  cases e <;> first | (rw [exec]; rfl; done) | skip
  all_goals first | (simp [E.isVar] at h; done) | (rw [exec] <;> first | rfl | (intros; contradiction))
@[simp] theorem exec_ret_glob {x : Str} : exec G F (.ret (.glob x)) ρ S = (ev G F (.glob x) ρ S).bind kRet := exec_ret rfl
@[simp] theorem exec_ret_gd {x : Str} {e : E} : exec G F (.ret (.gd x e)) ρ S = (ev G F (.gd x e) ρ S).bind kRet := exec_ret rfl
@[simp] theorem exec_ret_gin {neg : Bool} {x : Str} {e : E} : exec G F (.ret (.gin neg x e)) ρ S = (ev G F (.gin neg x e) ρ S).bind kRet := exec_ret rfl
@[simp] theorem exec_ret_glen {x : Str} : exec G F (.ret (.glen x)) ρ S = (ev G F (.glen x) ρ S).bind kRet := exec_ret rfl
@[simp] theorem exec_ret_cst {c : D} : exec G F (.ret (.cst c)) ρ S = (ev G F (.cst c) ρ S).bind kRet := exec_ret rfl
@[simp] theorem exec_ret_op {o : Op} {as : AL} : exec G F (.ret (.op o as)) ρ S = (ev G F (.op o as) ρ S).bind kRet := exec_ret rfl
@[simp] theorem exec_ret_and {a b : E} : exec G F (.ret (.and a b)) ρ S = (ev G F (.and a b) ρ S).bind kRet := exec_ret rfl
@[simp] theorem exec_ret_or {a b : E} : exec G F (.ret (.or a b)) ρ S = (ev G F (.or a b) ρ S).bind kRet := exec_ret rfl
@[simp] theorem exec_ret_not {a : E} : exec G F (.ret (.not a)) ρ S = (ev G F (.not a) ρ S).bind kRet := exec_ret rfl
@[simp] theorem exec_ret_ite {c a b : E} : exec G F (.ret (.ite c a b)) ρ S = (ev G F (.ite c a b) ρ S).bind kRet := exec_ret rfl
@[simp] theorem exec_ret_tup {es : EL} : exec G F (.ret (.tup es)) ρ S = (ev G F (.tup es) ρ S).bind kRet := exec_ret rfl
@[simp] theorem exec_ret_lst {es : EL} : exec G F (.ret (.lst es)) ρ S = (ev G F (.lst es) ρ S).bind kRet := exec_ret rfl
@[simp] theorem exec_ret_newL {es : EL} : exec G F (.ret (.newL es)) ρ S = (ev G F (.newL es) ρ S).bind kRet := exec_ret rfl
@[simp] theorem exec_ret_call {f : Nat} {es : EL} : exec G F (.ret (.call f es)) ρ S = (ev G F (.call f es) ρ S).bind kRet := exec_ret rfl
@[simp] theorem exec_ret_comp {tg : TG} {it : IT} {elt : E} {own : List Nat} : exec G F (.ret (.comp tg it elt own)) ρ S = (ev G F (.comp tg it elt own) ρ S).bind kRet := exec_ret rfl
@[simp] theorem exec_ret_compIf {tg : TG} {it : IT} {c elt : E} {own : List Nat} : exec G F (.ret (.compIf tg it c elt own)) ρ S = (ev G F (.compIf tg it c elt own) ρ S).bind kRet := exec_ret rfl
@[simp] theorem exec_ret_newC {tg : TG} {it : IT} {elt : E} {own : List Nat} : exec G F (.ret (.newC tg it elt own)) ρ S = (ev G F (.newC tg it elt own) ρ S).bind kRet := exec_ret rfl
@[simp] theorem exec_pass : exec G F .pass ρ S = .ok .nx ρ S := by rw [exec]
@[simp] theorem exec_cont : exec G F .cont ρ S = .ok .ct ρ S := by rw [exec]
@[simp] theorem exec_brk : exec G F .brk ρ S = .ok .bk ρ S := by rw [exec]
def kNx (G : Gls) (F : Fns) (ss : SL) : Fl → Env → Sto → R Fl := fun fl ρ1 S1 => match fl with
    | .nx => execs G F ss ρ1 S1
    | fl => .ok fl ρ1 S1
@[simp] theorem kNx_nx {ss : SL} : kNx G F ss .nx ρ S = execs G F ss ρ S := rfl
@[simp] theorem kNx_rt {ss : SL} {r : Rv} : kNx G F ss (.rt r) ρ S = .ok (.rt r) ρ S := rfl
@[simp] theorem kNx_bk {ss : SL} : kNx G F ss .bk ρ S = .ok .bk ρ S := rfl
@[simp] theorem kNx_ct {ss : SL} : kNx G F ss .ct ρ S = .ok .ct ρ S := rfl
@[simp] theorem execs_nil : execs G F .nil ρ S = .ok .nx ρ S := by rw [execs]
@[simp] theorem execs_cons {s : DL.S} {ss : SL} : execs G F (.cons s ss) ρ S = (exec G F s ρ S).bind (kNx G F ss) := by rw [execs] <;> rfl
end
end DL

end

section
set_option Elab.async false
set_option linter.all false
set_option maxRecDepth 100000
set_option maxHeartbeats 1000000
/-! DLdraw: the laws' draws. -/
namespace DL
open PySem (Str)
theorem fn_succ {G : Gls} {T : Nat → Option Def} {k f : Nat} {d : Def} {vs : List Vl} {S : Sto} (h : T f = some d) : fn G T (k + 1) f vs S = runDef G (fn G T k) d vs S := by
  rw [fn]; rw [h]
theorem gc_len {n : Nat} {r : Rv} {S : Sto} (h : S.length = n) : gc n r S = S := by
  unfold gc
  subst h
  split
  · simp
  · rfl
@[simp] theorem gc_self {r : Rv} {S : Sto} : gc S.length r S = S := gc_len rfl
def DS (cells rests : List Int) (turns may : Int) : Sto := [.lst (rests.map fun r => .d (.int r)), .lst [.d (.lst (cells.map D.int)), .d (.int turns), .h 0, .d (.int may)]]
theorem ixN_ok {n : Nat} {i : Int} (h0 : 0 ≤ i) (h1 : i < n) : L2.ixN n i = some i.toNat := by
  unfold L2.ixN
  rw [if_pos h0, if_pos h1]
theorem atI_ok {α : Type} {xs : List α} {i : Int} (h0 : 0 ≤ i) (h1 : i < xs.length) : L2.atI xs i = some (xs[i.toNat]'(by omega)) := by
  unfold L2.atI
  rw [ixN_ok h0 h1]
  simp
/-- the laws' next -/
def dNext : Def := ⟨2, 10,
    (.cons (.asg (.tp (.cons (.nm 5) (.cons (.nm 6) (.cons (.nm 7) (.cons (.nm 8) .nil))))) (.var 0))
    (.cons (.asg (.nm 2) (.op .mod (.pk 6 (.e (.op .len (.pk 5 .nil)) .nil))))
    (.cons (.setIx 0 (.cst (.int 1)) (.op .add (.pk 6 (.e (.cst (.int 1)) .nil))))
    (.cons (.ifs (.op .gt (.e (.op .ix (.pk 7 (.pk 2 .nil))) (.e (.cst (.int 0)) .nil)))
      (.cons (.asg (.nm 9) (.op .mod (.e (.op .ix (.pk 7 (.pk 2 .nil))) (.pk 1 .nil))))
    (.cons (.setIx 7 (.var 2) (.op .fdiv (.e (.op .ix (.pk 7 (.pk 2 .nil))) (.pk 1 .nil))))
    (.cons (.ret (.var 9))
    .nil)))
      .nil)
    (.cons (.asg (.nm 3) (.op .mod (.e (.op .pow (.e (.op .add (.e (.op .add (.e (.op .mod (.e (.op .ix (.pk 5 (.pk 2 .nil))) (.e (.cst (.int 2147483647)) .nil))) (.e (.op .mul (.e (.cst (.int 69621)) (.pk 6 .nil))) .nil))) (.e (.cst (.int 30269)) .nil))) (.e (.cst (.int 3)) .nil))) (.e (.cst (.int 2147483629)) .nil))))
    (.cons (.asg (.nm 4) (.op .mod (.e (.op .pow (.e (.op .add (.e (.op .add (.pk 3 (.e (.op .mul (.e (.op .mul (.e (.cst (.int 6007)) (.pk 6 .nil))) (.pk 6 .nil))) .nil))) (.e (.cst (.int 17)) .nil))) (.e (.cst (.int 3)) .nil))) (.e (.cst (.int 2147483587)) .nil))))
    (.cons (.ret (.op .mod (.e (.op .mod (.e (.op .add (.e (.op .mul (.pk 4 (.e (.cst (.int 2147483423)) .nil))) (.pk 3 .nil))) (.e (.cst (.int 4611686018427387847)) .nil))) (.pk 1 .nil))))
    .nil)))))))⟩
/-- _law_next -/
theorem next_ok {G : Gls} {T : Nat → Option Def} {f : Nat} (hT : T f = some dNext) (k : Nat) (cells rests : List Int) (turns may many : Int) (hc : cells ≠ []) (hl : rests.length = cells.length) (h0 : 0 ≤ turns) (h1 : turns ≤ 1000000) (hm : 0 < many) (hm2 : many < 2 ^ 64) :
    ∃ i rests', fn G T (k + 1) f [.h 1, .d (.int many)] (DS cells rests turns may) = some (vD (.int i), DS cells rests' (turns + 1) may) ∧ 0 ≤ i ∧ i < many ∧ rests'.length = cells.length := by
  rw [fn_succ hT]
  have hp : 0 < cells.length := List.length_pos_iff.mpr hc
  have hpi : (0 : Int) < (cells.length : Int) := by omega
  have q0 : 0 ≤ turns % (cells.length : Int) := Int.emod_nonneg _ (by omega)
  have q1 : turns % (cells.length : Int) < cells.length := Int.emod_lt_of_pos _ hpi
  generalize hat : turns % (cells.length : Int) = at_ at q0 q1
  have hL : at_.toNat < rests.length := by omega
  have hC : at_.toNat < cells.length := by omega
  have a1 : L2.atI (rests.map fun r => Vl.d (.int r)) at_ = some (.d (.int rests[at_.toNat])) := by
    rw [atI_ok q0 (by simpa using (by omega : at_ < rests.length))]; simp
  have a2 : L2.atI (cells.map D.int) at_ = some (.int cells[at_.toNat]) := by
    rw [atI_ok q0 (by simpa using q1)]; simp
  have a3 : L2.ixN rests.length at_ = some at_.toNat := ixN_ok q0 (by omega)
  generalize rests[at_.toNat] = r at a1
  generalize cells[at_.toNat] = c at a2
  have hm3 : many < 18446744073709551616 := by omega
  by_cases hr : 0 < r
  · refine ⟨r % many, rests.set at_.toNat (r / many), ?_, Int.emod_nonneg _ (by omega), Int.emod_lt_of_pos _ hm, by simp [hl]⟩
    simp [runDef, dNext, prim, un, bin, peek, grab, vD, bindT, bindTs, DS, lenD, modD, addD, gtD, fdivD, ixDD, hp, hat, ixN_ok, a1, a2, a3, hr, hm, hm3, gc, Rv.below, MO.below, Vl.below, List.map_set]
  · have m0 : 0 ≤ c % 2147483647 := Int.emod_nonneg _ (by omega)
    have m1 : c % 2147483647 < 2147483647 := Int.emod_lt_of_pos _ (by omega)
    generalize hM : (c % 2147483647 + 69621 * turns + 30269) ^ 3 % 2147483629 = M
    have n0 : 0 ≤ M := hM ▸ Int.emod_nonneg _ (by omega)
    have n1 : M < 2147483629 := hM ▸ Int.emod_lt_of_pos _ (by omega)
    have s1 : small (c % 2147483647 + 69621 * turns + 30269) = true := by simp [small]; omega
    have t0 : 0 ≤ 6007 * turns * turns := Int.mul_nonneg (by omega) h0
    have t1 : 6007 * turns * turns ≤ 6007 * 1000000 * 1000000 := Int.mul_le_mul (by omega) h1 h0 (by omega)
    have s2 : small (M + 6007 * turns * turns + 17) = true := by simp [small]; omega
    have s3 : small turns = true := by simp [small]; omega
    have c1 : small 69621 = true := by decide
    have c2 : small 6007 = true := by decide
    have c3 : small 2147483423 = true := by decide
    refine ⟨(((M + 6007 * turns * turns + 17) ^ 3 % 2147483587) * 2147483423 + M) % 4611686018427387847 % many, rests, ?_, Int.emod_nonneg _ (by omega), Int.emod_lt_of_pos _ hm, hl⟩
    simp [runDef, dNext, prim, un, bin, peek, grab, vD, bindT, bindTs, DS, lenD, modD, addD, mulD, powD, gtD, fdivD, ixDD, hp, hat, ixN_ok, a1, a2, a3, hr, hm, hm3, gc, Rv.below, MO.below, Vl.below, s1, s2, s3, c1, c2, c3, hM]
/-- turns that draw -/
theorem turns_ind {f : Vl → Env → Sto → R (Option Vl)} (I : Nat → Env → Sto → Prop) (Q : Vl → Prop) (N : Nat) (hf : ∀ j x ρ S, j < N → I j ρ S → ∃ y ρ' S', f x ρ S = .ok (some y) ρ' S' ∧ Q y ∧ I (j + 1) ρ' S') :
    ∀ (xs acc : List Vl) (j : Nat) (ρ : Env) (S : Sto), j + xs.length ≤ N → acc.length + xs.length ≤ big → I j ρ S →
      ∃ ys ρ' S', turns f xs acc ρ S = .ok (acc ++ ys) ρ' S' ∧ ys.length = xs.length ∧ (∀ y ∈ ys, Q y) ∧ I (j + xs.length) ρ' S'
  | [], acc, j, ρ, S, hj, hb, hI => ⟨[], ρ, S, by simp [turns], rfl, by simp, by simpa using hI⟩
  | x :: xs, acc, j, ρ, S, hj, hb, hI => by
    simp only [List.length_cons] at hj hb
    obtain ⟨y, ρ1, S1, e1, q1, i1⟩ := hf j x ρ S (by omega) hI
    obtain ⟨ys, ρ2, S2, e2, l2, q2, i2⟩ := turns_ind I Q N hf xs (acc ++ [y]) (j + 1) ρ1 S1 (by omega) (by simp <;> omega) i1
    refine ⟨y :: ys, ρ2, S2, ?_, by simp [l2], by simpa using ⟨q1, q2⟩, ?_⟩
    · rw [turns, e1]
      simp only [R.bind_ok]
      rw [if_pos (by omega), e2]; simp
    · have : j + 1 + xs.length = j + (x :: xs).length := by simp <;> omega
      rw [← this]; exact i2
/-- turns that only compute -/
theorem turns_fm {f : Vl → Env → Sto → R (Option Vl)} {S : Sto} (I : Env → Prop) (g : Vl → Option Vl) :
    ∀ (xs acc : List Vl) (ρ : Env), (∀ x ∈ xs, ∀ ρ, I ρ → ∃ ρ', f x ρ S = .ok (g x) ρ' S ∧ I ρ') → acc.length + xs.length ≤ big → I ρ →
      ∃ ρ', turns f xs acc ρ S = .ok (acc ++ xs.filterMap g) ρ' S ∧ I ρ'
  | [], acc, ρ, hf, hb, hI => ⟨ρ, by simp [turns], hI⟩
  | x :: xs, acc, ρ, hf, hb, hI => by
    simp only [List.length_cons] at hb
    obtain ⟨ρ1, e1, i1⟩ := hf x (by simp) ρ hI
    cases hg : g x with
    | none =>
      obtain ⟨ρ2, e2, i2⟩ := turns_fm I g xs acc ρ1 (fun y hy => hf y (by simp [hy])) (by omega) i1
      refine ⟨ρ2, ?_, i2⟩
      rw [turns, e1, hg]
      simp only [R.bind_ok]
      rw [e2]; simp [hg]
    | some y =>
      obtain ⟨ρ2, e2, i2⟩ := turns_fm I g xs (acc ++ [y]) ρ1 (fun y hy => hf y (by simp [hy])) (by simp <;> omega) i1
      refine ⟨ρ2, ?_, i2⟩
      rw [turns, e1, hg]
      simp only [R.bind_ok]
      rw [if_pos (by omega), e2]; simp [hg]
theorem zipT_eq : ∀ xs ys : List D, zipT xs ys = (xs.zip ys).map fun p => Vl.d (.tup [p.1, p.2])
  | [], _ => by simp [zipT]
  | _ :: _, [] => by simp [zipT]
  | x :: xs, y :: ys => by simp [zipT, zipT_eq xs ys]
theorem bools_map (l : List Bool) : bools (l.map D.bl) = some l := by
  induction l with
  | nil => rfl
  | cons b l ih => simp [bools, ih]
/-- a draw state, at most n draws old -/
def Dr (n : Int) (S : Sto) : Prop := ∃ cells rests turns may, S = DS cells rests turns may ∧ cells ≠ [] ∧ rests.length = cells.length ∧ 0 ≤ turns ∧ turns ≤ n
theorem Dr.len {n : Int} {S : Sto} (h : Dr n S) : S.length = 2 := by
  obtain ⟨_, _, _, _, rfl, _⟩ := h; rfl
theorem Dr.mono {n m : Int} {S : Sto} (h : Dr n S) (hm : n ≤ m) : Dr m S := by
  obtain ⟨c, r, t, y, rfl, h1, h2, h3, h4⟩ := h
  exact ⟨c, r, t, y, rfl, h1, h2, h3, by omega⟩
theorem nx {G : Gls} {T : Nat → Option Def} {f : Nat} (hT : T f = some dNext) (k : Nat) {n many : Int} {S : Sto} (h : Dr n S) (hn : n ≤ 1000000) (hm : 0 < many) (hm2 : many < 2 ^ 64) : ∃ i S', fn G T (k + 1) f [.h 1, .d (.int many)] S = some (vD (.int i), S') ∧ 0 ≤ i ∧ i < many ∧ Dr (n + 1) S' := by
  obtain ⟨c, r, t, y, rfl, h1, h2, h3, h4⟩ := h
  obtain ⟨i, r', e, i0, i1, l⟩ := next_ok hT k c r t y many h1 h2 h3 (by omega) hm hm2
  exact ⟨i, _, e, i0, i1, c, r', t + 1, y, rfl, h1, l, by omega, by omega⟩
theorem atI_mem {α : Type} {xs : List α} {i : Int} (h0 : 0 ≤ i) (h1 : i < xs.length) : ∃ x ∈ xs, L2.atI xs i = some x :=
  ⟨xs[i.toNat]'(by omega), by simp, atI_ok h0 h1⟩
theorem DS_len (c r : List Int) (t y : Int) : (DS c r t y).length = 2 := rfl
theorem DS_get (c r : List Int) (t y : Int) : (DS c r t y)[1]? = some (.lst [Vl.d (.lst (c.map D.int)), .d (.int t), .h 0, .d (.int y)]) := rfl
theorem DS_set (c r : List Int) (t y z : Int) : (DS c r t y).set 1 (.lst [Vl.d (.lst (c.map D.int)), .d (.int t), .h 0, .d (.int z)]) = DS c r t z := rfl
theorem gc2 {S S' : Sto} {r : Rv} (h : S.length = 2) (h' : S'.length = 2) : gc S.length r S' = S' := gc_len (by rw [h, h'])
theorem gc22 {S' : Sto} {r : Rv} (h' : S'.length = 2) : gc 2 r S' = S' := gc_len h'
/-- the cells -/
theorem cells_ok (ns : List Int) : ∃ cells : List Int, cells ≠ [] ∧ cells.length ≤ 64 ∧ (cut (ns.map D.int) none (some 63)).length ≤ 63 ∧ cut (ns.map D.int) none (some 63) ++ List.replicate (b2I ((ns.length : Int) == 0)).toNat (D.int 0) = cells.map D.int := by
  refine ⟨ns.take 63 ++ (if ns = [] then [0] else []), ?_, ?_, ?_, ?_⟩
  · cases ns <;> simp
  · cases ns <;> simp <;> omega
  · have : HT.sIx ns.length ns.length (some 63) = min 63 ns.length := HT.sIx_nat _ _ 63
    simp only [cut, HT.sIx_none, List.length_map, this]
    simp; omega
  · have : HT.sIx ns.length ns.length (some 63) = min 63 ns.length := HT.sIx_nat _ _ 63
    simp only [cut, HT.sIx_none, List.length_map, this]
    cases ns with
    | nil => simp [b2I]
    | cons a r =>
      have h0 : (((a :: r).length : Int) == 0) = false := by simp <;> omega
      rw [h0]
      simp only [b2I, List.drop_zero, Nat.sub_zero]
      rw [← List.map_take, ← List.take_take, List.take_length]
      simp
theorem rests_ok {G : Gls} {F : Fns} {v : Nat} {S : Sto} (cells : List Int) (hl : cells.length ≤ 64) (I : Env → Prop) (ρ : Env) (h0 : I ρ)
    (hI : ∀ i ρ, I ρ → ∃ ρ', cf G F (.nm v) (.op .mul (.pk v (.e (.op .int (.e (.op .ge (.pk v (.e (.op .pow (.e (.cst (.int 10)) (.e (.cst (.int 18)) .nil))) .nil))) .nil)) .nil))) [v] (.d (.int i)) ρ S = .ok (some (.d (.int (i * b2I (decide (10 ^ 18 ≤ i)))))) ρ' S ∧ I ρ') :
    ∃ ρ', turns (cf G F (.nm v) (.op .mul (.pk v (.e (.op .int (.e (.op .ge (.pk v (.e (.op .pow (.e (.cst (.int 10)) (.e (.cst (.int 18)) .nil))) .nil))) .nil)) .nil))) [v]) ((cells.map D.int).map Vl.d) [] ρ S = .ok ((cells.map fun i => i * b2I (decide (10 ^ 18 ≤ i))).map fun r => Vl.d (.int r)) ρ' S ∧ I ρ' := by
  obtain ⟨ρ', e, h⟩ := turns_fm (S := S) I (fun x => match x with
    | .d (.int i) => some (.d (.int (i * b2I (decide (10 ^ 18 ≤ i)))))
    | _ => none) ((cells.map D.int).map Vl.d) [] ρ (fun x hx ρ hρ => by
      simp only [List.map_map, List.mem_map, Function.comp_def] at hx
      obtain ⟨i, hi, rfl⟩ := hx
      exact hI i ρ hρ) (by simp [big] <;> omega) h0
  refine ⟨ρ', ?_, h⟩
  rw [e]
  simp [List.filterMap_map, Function.comp_def]
end DL

end

section
set_option Elab.async false
set_option linter.all false
set_option maxRecDepth 100000
namespace Mine
open PySem L2 DL
/-- keeps(count, word): slots 0 count, 1 word, 2 least, 3 most -/
def d0 : Def := ⟨2, 4,
    (.cons (.asg (.tp (.cons (.nm 2) (.cons (.nm 3) .nil))) (.gd "COUNTS" (.var 1)))
    (.cons (.ret (.and (.op .le (.pk 2 (.e (.op .ix (.pk 0 (.e (.cst (.int 0)) .nil))) .nil))) (.op .le (.e (.op .ix (.pk 0 (.e (.cst (.int 1)) .nil))) (.pk 3 .nil)))))
    .nil))⟩
def N0 : List Str := ["count", "word", "least", "most"]
def p0 : List Str := ["count", "word"]
/-- _law_draws(_law_script): slots 0 _law_script, 1 _law_cells, 2 _law_cell -/
def d1 : Def := ⟨1, 3,
    (.cons (.asg (.nm 1) (.op .add (.e (.op .list (.e (.op (.sl false true) (.pk 0 (.e (.cst (.int 63)) .nil))) .nil)) (.e (.op .mul (.e (.lst (.cons (.cst (.int 0)) .nil)) (.e (.op .int (.e (.op .eq (.e (.op .len (.pk 0 .nil)) (.e (.cst (.int 0)) .nil))) .nil)) .nil))) .nil))))
    (.cons (.ret (.newL (.cons (.var 1) (.cons (.cst (.int 0)) (.cons (.newC (.nm 2) (.seq (.var 1)) (.op .mul (.pk 2 (.e (.op .int (.e (.op .ge (.pk 2 (.e (.op .pow (.e (.cst (.int 10)) (.e (.cst (.int 18)) .nil))) .nil))) .nil)) .nil))) [2]) (.cons (.cst (.int 9)) .nil))))))
    .nil))⟩
def N1 : List Str := ["_law_script", "_law_cells", "_law_cell"]
def p1 : List Str := ["_law_script"]
/-- _law_next(_law_drawn, _law_many): slots 0 _law_drawn, 1 _law_many, 2 _law_at, 3 _law_mixed, 4 _law_more, 5 _law_cells, 6 _law_turns, 7 _law_rests, 8 _law_may, 9 _law_digit -/
def d2 : Def := ⟨2, 10,
    (.cons (.asg (.tp (.cons (.nm 5) (.cons (.nm 6) (.cons (.nm 7) (.cons (.nm 8) .nil))))) (.var 0))
    (.cons (.asg (.nm 2) (.op .mod (.pk 6 (.e (.op .len (.pk 5 .nil)) .nil))))
    (.cons (.setIx 0 (.cst (.int 1)) (.op .add (.pk 6 (.e (.cst (.int 1)) .nil))))
    (.cons (.ifs (.op .gt (.e (.op .ix (.pk 7 (.pk 2 .nil))) (.e (.cst (.int 0)) .nil)))
      (.cons (.asg (.nm 9) (.op .mod (.e (.op .ix (.pk 7 (.pk 2 .nil))) (.pk 1 .nil))))
    (.cons (.setIx 7 (.var 2) (.op .fdiv (.e (.op .ix (.pk 7 (.pk 2 .nil))) (.pk 1 .nil))))
    (.cons (.ret (.var 9))
    .nil)))
      .nil)
    (.cons (.asg (.nm 3) (.op .mod (.e (.op .pow (.e (.op .add (.e (.op .add (.e (.op .mod (.e (.op .ix (.pk 5 (.pk 2 .nil))) (.e (.cst (.int 2147483647)) .nil))) (.e (.op .mul (.e (.cst (.int 69621)) (.pk 6 .nil))) .nil))) (.e (.cst (.int 30269)) .nil))) (.e (.cst (.int 3)) .nil))) (.e (.cst (.int 2147483629)) .nil))))
    (.cons (.asg (.nm 4) (.op .mod (.e (.op .pow (.e (.op .add (.e (.op .add (.pk 3 (.e (.op .mul (.e (.op .mul (.e (.cst (.int 6007)) (.pk 6 .nil))) (.pk 6 .nil))) .nil))) (.e (.cst (.int 17)) .nil))) (.e (.cst (.int 3)) .nil))) (.e (.cst (.int 2147483587)) .nil))))
    (.cons (.ret (.op .mod (.e (.op .mod (.e (.op .add (.e (.op .mul (.pk 4 (.e (.cst (.int 2147483423)) .nil))) (.pk 3 .nil))) (.e (.cst (.int 4611686018427387847)) .nil))) (.pk 1 .nil))))
    .nil)))))))⟩
def N2 : List Str := ["_law_drawn", "_law_many", "_law_at", "_law_mixed", "_law_more", "_law_cells", "_law_turns", "_law_rests", "_law_may", "_law_digit"]
def p2 : List Str := ["_law_drawn", "_law_many"]
/-- _law_one(_law_drawn, _law_things): slots 0 _law_drawn, 1 _law_things -/
def d3 : Def := ⟨2, 2,
    (.cons (.ret (.op .ix (.pk 1 (.e (.call 2 (.cons (.var 0) (.cons (.op .len (.pk 1 .nil)) .nil))) .nil))))
    .nil)⟩
def N3 : List Str := ["_law_drawn", "_law_things"]
def p3 : List Str := ["_law_drawn", "_law_things"]
/-- _law_alike(_law_one_here, _law_other): slots 0 _law_one_here, 1 _law_other, 2 _law_k -/
def d4 : Def := ⟨2, 3,
    (.cons (.ifs (.and (.op (.isi .tuple) (.pk 0 .nil)) (.op (.isi .tuple) (.pk 1 .nil)))
      (.cons (.ifs (.op .ne (.e (.op .len (.pk 0 .nil)) (.e (.op .len (.pk 1 .nil)) .nil)))
      (.cons (.ret (.cst (.bl false)))
    .nil)
      .nil)
    (.cons (.ret (.op .eq (.e (.compIf (.nm 2) (.rng (.op .len (.pk 0 .nil))) (.not (.call 4 (.cons (.op .ix (.pk 0 (.pk 2 .nil))) (.cons (.op .ix (.pk 1 (.pk 2 .nil))) .nil)))) (.var 2) [2]) (.e (.lst .nil) .nil))))
    .nil))
      .nil)
    (.cons (.ifs (.op .ne (.e (.op (.isi .bool) (.pk 0 .nil)) (.e (.op (.isi .bool) (.pk 1 .nil)) .nil)))
      (.cons (.ret (.cst (.bl false)))
    .nil)
      .nil)
    (.cons (.ret (.and (.op .eq (.e (.op (.isi .int) (.pk 0 .nil)) (.e (.op (.isi .int) (.pk 1 .nil)) .nil))) (.op .eq (.pk 0 (.pk 1 .nil)))))
    .nil)))⟩
def N4 : List Str := ["_law_one_here", "_law_other", "_law_k"]
def p4 : List Str := ["_law_one_here", "_law_other"]
/-- law(_law_script): slots 0 _law_script, 1 _law_drawn, 2 _law_words, 3 _law_asked, 4 _law_at, 5 _law_low, 6 _law_high, 7 _law_count, 8 _law_one_here, 9 _law_due, 10 _law_word, 11 _law_k -/
def d5 : Def := ⟨1, 12,
    (.cons (.asg (.nm 1) (.call 1 (.cons (.var 0) .nil)))
    (.cons (.asg (.nm 2) (.lst (.cons (.tup (.cons (.cst (.str "none")) (.cons (.cst (.int 0)) (.cons (.cst (.int 0)) .nil)))) (.cons (.tup (.cons (.cst (.str "one")) (.cons (.cst (.int 1)) (.cons (.cst (.int 1)) .nil)))) (.cons (.tup (.cons (.cst (.str "most")) (.cons (.cst (.int 0)) (.cons (.cst (.int 1)) .nil)))) (.cons (.tup (.cons (.cst (.str "some")) (.cons (.cst (.int 1)) (.cons (.cst (.int 2)) .nil)))) (.cons (.tup (.cons (.cst (.str "any")) (.cons (.cst (.int 0)) (.cons (.cst (.int 2)) .nil)))) .nil)))))))
    (.cons (.asg (.nm 3) (.lst .nil))
    (.cons (.fors (.tp (.cons (.nm 5) (.cons (.nm 6) .nil))) (.seq (.lst (.cons (.tup (.cons (.cst (.int 0)) (.cons (.cst (.int 0)) .nil))) (.cons (.tup (.cons (.cst (.int 0)) (.cons (.cst (.int 1)) .nil))) (.cons (.tup (.cons (.cst (.int 0)) (.cons (.cst (.int 2)) .nil))) (.cons (.tup (.cons (.cst (.int 1)) (.cons (.cst (.int 1)) .nil))) (.cons (.tup (.cons (.cst (.int 1)) (.cons (.cst (.int 2)) .nil))) .nil)))))))
      (.cons (.asg (.nm 3) (.op .add (.pk 3 (.e (.comp (.nm 8) (.seq (.var 2)) (.tup (.cons (.tup (.cons (.var 5) (.cons (.var 6) .nil))) (.cons (.var 8) .nil))) [8]) .nil))))
    .nil))
    (.cons (.asg (.nm 4) (.call 2 (.cons (.var 1) (.cons (.cst (.int 25)) .nil))))
    (.cons (.asg (.nm 3) (.op .add (.e (.op .add (.e (.op (.sl true false) (.pk 3 (.e (.var 4) .nil))) (.e (.op (.sl false true) (.pk 3 (.e (.var 4) .nil))) .nil))) (.e (.comp (.nm 11) (.rng (.cst (.int 5))) (.call 3 (.cons (.var 1) (.cons (.var 3) .nil))) [11]) .nil))))
    (.cons (.fors (.tp (.cons (.nm 7) (.cons (.nm 8) .nil))) (.seq (.var 3))
      (.cons (.asg (.nm 9) (.and (.op .le (.e (.op .ix (.pk 8 (.e (.cst (.int 1)) .nil))) (.e (.op .ix (.pk 7 (.e (.cst (.int 0)) .nil))) .nil))) (.op .le (.e (.op .ix (.pk 7 (.e (.cst (.int 1)) .nil))) (.e (.op .ix (.pk 8 (.e (.cst (.int 2)) .nil))) .nil)))))
    (.cons (.ifs (.not (.call 4 (.cons (.call 0 (.cons (.var 7) (.cons (.op .ix (.pk 8 (.e (.cst (.int 0)) .nil))) .nil))) (.cons (.var 9) .nil))))
      (.cons (.ret (.cst (.bl false)))
    .nil)
      .nil)
    .nil)))
    (.cons (.ifs (.op .ne (.e (.glen "COUNTS") (.e (.cst (.int 5)) .nil)))
      (.cons (.ret (.cst (.bl false)))
    .nil)
      .nil)
    (.cons (.fors (.tp (.cons (.nm 10) (.cons (.nm 5) (.cons (.nm 6) .nil)))) (.seq (.var 2))
      (.cons (.ifs (.or (.gin true "COUNTS" (.var 10)) (.not (.call 4 (.cons (.gd "COUNTS" (.var 10)) (.cons (.tup (.cons (.var 5) (.cons (.var 6) .nil))) .nil)))))
      (.cons (.ret (.cst (.bl false)))
    .nil)
      .nil)
    .nil))
    (.cons (.ret (.cst (.bl true)))
    .nil))))))))))⟩
def N5 : List Str := ["_law_script", "_law_drawn", "_law_words", "_law_asked", "_law_at", "_law_low", "_law_high", "_law_count", "_law_one_here", "_law_due", "_law_word", "_law_k"]
def p5 : List Str := ["_law_script"]
def g_COUNTS : List (Str × D) := [("none", (.tup [(.int (0)), (.int (0))])), ("one", (.tup [(.int (1)), (.int (1))])), ("most", (.tup [(.int (0)), (.int (1))])), ("some", (.tup [(.int (1)), (.int (2))])), ("any", (.tup [(.int (0)), (.int (2))]))]
def G0 : Gls := ⟨fun x => none, fun x => if x = "COUNTS" then some g_COUNTS else none⟩
def T : Nat → Option Def
  | 0 => some d0
  | 1 => some d1
  | 2 => some d2
  | 3 => some d3
  | 4 => some d4
  | 5 => some d5
  | _ => none
def nm : Nat → Option Str
  | 0 => some "keeps"
  | 1 => some "_law_draws"
  | 2 => some "_law_next"
  | 3 => some "_law_one"
  | 4 => some "_law_alike"
  | 5 => some "law"
  | _ => none
def top (i : Nat) : Stmt := PySem.Challenge.pw_modegoals_k40_words_kept.main.body.getD i (.Pass ⟨0, 0, 0, 0⟩)
theorem x0 : Text nm d0 "keeps" (top 2) N0 p0 := ⟨⟨rfl, rfl, rfl, by decide +kernel, rfl, by decide +kernel, by decide +kernel⟩, fun _ _ _ _ _ _ us hl => (match us, hl with | [_, _], _ => rfl), rfl, rfl, by decide +kernel⟩
theorem x1 : Text nm d1 "_law_draws" (top 4) N1 p1 := ⟨⟨rfl, rfl, rfl, by decide +kernel, rfl, by decide +kernel, by decide +kernel⟩, fun _ _ _ _ _ _ us hl => (match us, hl with | [_], _ => rfl), rfl, rfl, by decide +kernel⟩
theorem x2 : Text nm d2 "_law_next" (top 5) N2 p2 := ⟨⟨rfl, rfl, rfl, by decide +kernel, rfl, by decide +kernel, by decide +kernel⟩, fun _ _ _ _ _ _ us hl => (match us, hl with | [_, _], _ => rfl), rfl, rfl, by decide +kernel⟩
theorem x3 : Text nm d3 "_law_one" (top 6) N3 p3 := ⟨⟨rfl, rfl, rfl, by decide +kernel, rfl, by decide +kernel, by decide +kernel⟩, fun _ _ _ _ _ _ us hl => (match us, hl with | [_, _], _ => rfl), rfl, rfl, by decide +kernel⟩
theorem x4 : Text nm d4 "_law_alike" (top 7) N4 p4 := ⟨⟨rfl, rfl, rfl, by decide +kernel, rfl, by decide +kernel, by decide +kernel⟩, fun _ _ _ _ _ _ us hl => (match us, hl with | [_, _], _ => rfl), rfl, rfl, by decide +kernel⟩
theorem x5 : Text nm d5 "law" (top 8) N5 p5 := ⟨⟨rfl, rfl, rfl, by decide +kernel, rfl, by decide +kernel, by decide +kernel⟩, fun _ _ _ _ _ _ us hl => (match us, hl with | [_], _ => rfl), rfl, rfl, by decide +kernel⟩
theorem all_text (K : Frag) (h0 : DefAt K "keeps" (top 2)) (h1 : DefAt K "_law_draws" (top 4)) (h2 : DefAt K "_law_next" (top 5)) (h3 : DefAt K "_law_one" (top 6)) (h4 : DefAt K "_law_alike" (top 7)) (h5 : DefAt K "law" (top 8)) : ∀ f y, nm f = some y → ∃ d st N ps, T f = some d ∧ DefAt K y st ∧ Text nm d y st N ps := fun f y e => by
  unfold nm at e
  split at e
  · cases e; exact ⟨d0, _, N0, p0, rfl, h0, x0⟩
  · cases e; exact ⟨d1, _, N1, p1, rfl, h1, x1⟩
  · cases e; exact ⟨d2, _, N2, p2, rfl, h2, x2⟩
  · cases e; exact ⟨d3, _, N3, p3, rfl, h3, x3⟩
  · cases e; exact ⟨d4, _, N4, p4, rfl, h4, x4⟩
  · cases e; exact ⟨d5, _, N5, p5, rfl, h5, x5⟩
  · cases e
end Mine

end

section
set_option Elab.async false
set_option linter.all false
set_option maxRecDepth 100000
set_option maxHeartbeats 1000000
namespace Mine
open DL
open PySem (Str)
def lb1 : SL := (.cons (.asg (.nm 3) (.op .add (.pk 3 (.e (.comp (.nm 8) (.seq (.var 2)) (.tup (.cons (.tup (.cons (.var 5) (.cons (.var 6) .nil))) (.cons (.var 8) .nil))) [8]) .nil)))) .nil)
def lb2 : SL := (.cons (.asg (.nm 9) (.and (.op .le (.e (.op .ix (.pk 8 (.e (.cst (.int 1)) .nil))) (.e (.op .ix (.pk 7 (.e (.cst (.int 0)) .nil))) .nil))) (.op .le (.e (.op .ix (.pk 7 (.e (.cst (.int 1)) .nil))) (.e (.op .ix (.pk 8 (.e (.cst (.int 2)) .nil))) .nil))))) (.cons (.ifs (.not (.call 4 (.cons (.call 0 (.cons (.var 7) (.cons (.op .ix (.pk 8 (.e (.cst (.int 0)) .nil))) .nil))) (.cons (.var 9) .nil)))) (.cons (.ret (.cst (.bl false))) .nil) .nil) .nil))
def lb3 : SL := (.cons (.ifs (.or (.gin true "COUNTS" (.var 10)) (.not (.call 4 (.cons (.gd "COUNTS" (.var 10)) (.cons (.tup (.cons (.var 5) (.cons (.var 6) .nil))) .nil))))) (.cons (.ret (.cst (.bl false))) .nil) .nil) .nil)
theorem d5_eq : d5 = ⟨1, 12, (.cons (.asg (.nm 1) (.call 1 (.cons (.var 0) .nil))) (.cons (.asg (.nm 2) (.lst (.cons (.tup (.cons (.cst (.str "none")) (.cons (.cst (.int 0)) (.cons (.cst (.int 0)) .nil)))) (.cons (.tup (.cons (.cst (.str "one")) (.cons (.cst (.int 1)) (.cons (.cst (.int 1)) .nil)))) (.cons (.tup (.cons (.cst (.str "most")) (.cons (.cst (.int 0)) (.cons (.cst (.int 1)) .nil)))) (.cons (.tup (.cons (.cst (.str "some")) (.cons (.cst (.int 1)) (.cons (.cst (.int 2)) .nil)))) (.cons (.tup (.cons (.cst (.str "any")) (.cons (.cst (.int 0)) (.cons (.cst (.int 2)) .nil)))) .nil))))))) (.cons (.asg (.nm 3) (.lst .nil)) (.cons (.fors (.tp (.cons (.nm 5) (.cons (.nm 6) .nil))) (.seq (.lst (.cons (.tup (.cons (.cst (.int 0)) (.cons (.cst (.int 0)) .nil))) (.cons (.tup (.cons (.cst (.int 0)) (.cons (.cst (.int 1)) .nil))) (.cons (.tup (.cons (.cst (.int 0)) (.cons (.cst (.int 2)) .nil))) (.cons (.tup (.cons (.cst (.int 1)) (.cons (.cst (.int 1)) .nil))) (.cons (.tup (.cons (.cst (.int 1)) (.cons (.cst (.int 2)) .nil))) .nil))))))) lb1) (.cons (.asg (.nm 4) (.call 2 (.cons (.var 1) (.cons (.cst (.int 25)) .nil)))) (.cons (.asg (.nm 3) (.op .add (.e (.op .add (.e (.op (.sl true false) (.pk 3 (.e (.var 4) .nil))) (.e (.op (.sl false true) (.pk 3 (.e (.var 4) .nil))) .nil))) (.e (.comp (.nm 11) (.rng (.cst (.int 5))) (.call 3 (.cons (.var 1) (.cons (.var 3) .nil))) [11]) .nil)))) (.cons (.fors (.tp (.cons (.nm 7) (.cons (.nm 8) .nil))) (.seq (.var 3)) lb2) (.cons (.ifs (.op .ne (.e (.glen "COUNTS") (.e (.cst (.int 5)) .nil))) (.cons (.ret (.cst (.bl false))) .nil) .nil) (.cons (.fors (.tp (.cons (.nm 10) (.cons (.nm 5) (.cons (.nm 6) .nil)))) (.seq (.var 2)) lb3) (.cons (.ret (.cst (.bl true))) .nil))))))))))⟩ := rfl
theorem loop_all {f : Vl → Env → Sto → R Fl} {S : Sto} (I : Env → Prop) : ∀ (xs : List Vl) (ρ : Env), (∀ x ∈ xs, ∀ ρ, I ρ → ∃ ρ', f x ρ S = .ok .nx ρ' S ∧ I ρ') → I ρ → ∃ ρ', loop f xs ρ S = .ok .nx ρ' S ∧ I ρ'
  | [], ρ, _, h => ⟨ρ, rfl, h⟩
  | x :: xs, ρ, hf, h => by
    obtain ⟨ρ1, e1, i1⟩ := hf x (by simp) ρ h
    obtain ⟨ρ2, e2, i2⟩ := loop_all I xs ρ1 (fun y hy => hf y (by simp [hy])) i1
    exact ⟨ρ2, by rw [loop_cons, e1, R.bind_ok, kLoop_nx, e2], i2⟩
/-- _law_draws -/
theorem f1 (k : Nat) (ns : List Int) : ∃ S, fn G0 T (k + 1) 1 [.scr ns] [] = some (.v (.h 1), S) ∧ Dr 0 S := by
  obtain ⟨cells, hc, hl, hl2, e⟩ := cells_ok ns
  rw [fn_succ (d := d1) rfl]
  obtain ⟨ρ', e2, u, hu⟩ := rests_ok (G := G0) (F := fn G0 T k) (v := 2) (S := []) cells hl (fun ρ => ∃ u, ρ = [some (.v (.scr ns)), some (vD (.lst (cells.map D.int))), u]) [some (.v (.scr ns)), some (vD (.lst (cells.map D.int))), none] ⟨_, rfl⟩ (fun i ρ hρ => by
    obtain ⟨u, rfl⟩ := hρ
    refine ⟨[some (.v (.scr ns)), some (vD (.lst (cells.map D.int))), some (vD (.int i))], ?_, _, rfl⟩
    have s1 : small 10 = true := by decide
    have s2 : ∀ b, small (b2I b) = true := by decide
    simp [cf_at, runDef, prim, un, bin, peek, grab, vD, bindT, bindTs, lenD, modD, addD, subD, mulD, powD, shlD, negD, gtD, ltD, geD, leD, fdivD, ixDD, intD, tupleD, listD, allD, isTy, eqD, D.eqv, D.eqvs, D.deep, D.deeps, wipe, unwipe, noOwn, datas, items, big, s1, s2])
  simp only [vD] at e2
  refine ⟨DS cells (cells.map fun i => i * b2I (decide (10 ^ 18 ≤ i))) 0 9, ?_, cells, _, 0, 9, rfl, hc, by simp, by omega, by omega⟩
  generalize hcu : cut (ns.map D.int) none (some 63) = cu at *
  generalize (cells.map fun i => i * b2I (decide (10 ^ 18 ≤ i))) = rs at *
  generalize hcs : cells.map D.int = cs at *
  subst hu
  have b0 : ∀ b, (0 : Int) ≤ b2I b := by decide
  have b1 : ∀ b, b2I b ≤ 1 := by decide
  have b2 := b0 ((ns.length : Int) == 0)
  have b3 := b1 ((ns.length : Int) == 0)
  have q1 : -1000000 ≤ b2I ((ns.length : Int) == 0) := by omega
  have q2 : b2I ((ns.length : Int) == 0) ≤ 1000000 := by omega
  have q3 : (b2I ((ns.length : Int) == 0)).toNat ≤ 1000000 := by omega
  have q4 : cu.length + (b2I ((ns.length : Int) == 0)).toNat ≤ 1000000 := by omega
  have hD : DS cells rs 0 9 = [.lst (rs.map fun r => .d (.int r)), .lst [.d (.lst cs), .d (.int 0), .h 0, .d (.int 9)]] := by rw [DS, hcs]
  rw [hD]
  simp [d1, runDef, prim, un, bin, peek, grab, vD, bindT, bindTs, lenD, modD, addD, subD, mulD, powD, shlD, negD, gtD, ltD, geD, leD, fdivD, ixDD, intD, tupleD, listD, allD, isTy, eqD, D.eqv, D.eqvs, D.deep, D.deeps, wipe, unwipe, noOwn, datas, items, big, slice, hcu, q1, q2, q3, q4, e, e2, gc, Rv.below, MO.below, Vl.below, List.filterMap_map, Function.comp_def]
theorem f4b (k : Nat) (b : Bool) (S : Sto) : fn G0 T (k + 1) 4 [.d (.bl b), .d (.bl b)] S = some (vD (.bl true), S) := by
  rw [fn_succ (d := d4) rfl]
  simp [d4, runDef, prim, un, bin, peek, grab, vD, bindT, bindTs, lenD, modD, addD, subD, mulD, powD, shlD, negD, gtD, ltD, geD, leD, fdivD, ixDD, intD, tupleD, listD, allD, isTy, eqD, D.eqv, D.eqvs, D.deep, D.deeps, wipe, unwipe, noOwn, datas, items, big]
theorem f4i (k : Nat) (i : Int) (S : Sto) : fn G0 T (k + 1) 4 [.d (.int i), .d (.int i)] S = some (vD (.bl true), S) := by
  rw [fn_succ (d := d4) rfl]
  simp [d4, runDef, prim, un, bin, peek, grab, vD, bindT, bindTs, lenD, modD, addD, subD, mulD, powD, shlD, negD, gtD, ltD, geD, leD, fdivD, ixDD, intD, tupleD, listD, allD, isTy, eqD, D.eqv, D.eqvs, D.deep, D.deeps, wipe, unwipe, noOwn, datas, items, big]
theorem f4p (k : Nat) (i j : Int) (S : Sto) : fn G0 T (k + 2) 4 [.d (.tup [.int i, .int j]), .d (.tup [.int i, .int j])] S = some (vD (.bl true), S) := by
  rw [fn_succ (d := d4) rfl]
  have e1 := f4i k i S
  have e2 := f4i k j S
  simp only [vD] at e1 e2
  have n2 : nats 2 = [.d (.int 0), .d (.int 1)] := rfl
  have a0 : L2.atI [D.int i, D.int j] 0 = some (.int i) := rfl
  have a1 : L2.atI [D.int i, D.int j] 1 = some (.int j) := rfl
  simp [d4, runDef, prim, un, bin, peek, grab, vD, bindT, bindTs, lenD, modD, addD, subD, mulD, powD, shlD, negD, gtD, ltD, geD, leD, fdivD, ixDD, intD, tupleD, listD, allD, isTy, eqD, D.eqv, D.eqvs, D.deep, D.deeps, wipe, unwipe, noOwn, datas, items, big, n2, turns, cfI_at, a0, a1, e1, e2]
theorem f0 (k : Nat) (a b l h : Int) (w : Str) (hw : lookD g_COUNTS w = some (.tup [.int l, .int h])) (S : Sto) : fn G0 T (k + 1) 0 [.d (.tup [.int a, .int b]), .d (.str w)] S = some (vD (.bl (decide (l ≤ a) && decide (b ≤ h))), S) := by
  rw [fn_succ (d := d0) rfl]
  have a0 : L2.atI [D.int a, D.int b] 0 = some (.int a) := rfl
  have a1 : L2.atI [D.int a, D.int b] 1 = some (.int b) := rfl
  by_cases h1 : l ≤ a <;> simp [d0, runDef, prim, un, bin, peek, grab, vD, bindT, bindTs, lenD, modD, addD, subD, mulD, powD, shlD, negD, gtD, ltD, geD, leD, fdivD, ixDD, intD, tupleD, listD, allD, isTy, eqD, D.eqv, D.eqvs, D.deep, D.deeps, wipe, unwipe, noOwn, datas, items, big, G0, gdGet, hw, a0, a1, h1]
def P (x : D) : Prop := ∃ a b w l h, x = .tup [.tup [.int a, .int b], .tup [.str w, .int l, .int h]] ∧ lookD g_COUNTS w = some (.tup [.int l, .int h])
theorem turn2 (x : D) (hx : P x) (ρ : Env) (S : Sto) (c0 c1 c2 c3 c4 : Option Rv) (hρ : ∃ u5 u6 u7 u8 u9 u10 u11, ρ = [c0, c1, c2, c3, c4, u5, u6, u7, u8, u9, u10, u11]) :
    ∃ ρ', lf G0 (fn G0 T 199) (.tp (.cons (.nm 7) (.cons (.nm 8) .nil))) lb2 (.d x) ρ S = .ok .nx ρ' S ∧ ∃ u5 u6 u7 u8 u9 u10 u11, ρ' = [c0, c1, c2, c3, c4, u5, u6, u7, u8, u9, u10, u11] := by
  obtain ⟨u5, u6, u7, u8, u9, u10, u11, rfl⟩ := hρ
  obtain ⟨a, b, w, l, h, rfl, hw⟩ := hx
  have e0 := f0 198 a b l h w hw S
  have e4 := fun b => f4b 198 b S
  have a0 : L2.atI [D.int a, D.int b] 0 = some (.int a) := rfl
  have a1 : L2.atI [D.int a, D.int b] 1 = some (.int b) := rfl
  have b0 : L2.atI [D.str w, D.int l, D.int h] 0 = some (.str w) := rfl
  have b1 : L2.atI [D.str w, D.int l, D.int h] 1 = some (.int l) := rfl
  have b2 : L2.atI [D.str w, D.int l, D.int h] 2 = some (.int h) := rfl
  simp only [vD, Nat.reduceAdd] at e0 e4
  refine ⟨[c0, c1, c2, c3, c4, u5, u6, some (vD (.tup [.int a, .int b])), some (vD (.tup [.str w, .int l, .int h])), some (vD (.bl (decide (l ≤ a) && decide (b ≤ h)))), u10, u11], ?_, _, _, _, _, _, _, _, rfl⟩
  by_cases h1 : l ≤ a <;> simp [h1] at e0 <;> simp [lf_at, lb2, runDef, prim, un, bin, peek, grab, vD, bindT, bindTs, lenD, modD, addD, subD, mulD, powD, shlD, negD, gtD, ltD, geD, leD, fdivD, ixDD, intD, tupleD, listD, allD, isTy, eqD, D.eqv, D.eqvs, D.deep, D.deeps, wipe, unwipe, noOwn, datas, items, big, a0, a1, b0, b1, b2, h1, e0, e4]
def ws : List D := [.tup [.str "none", .int 0, .int 0], .tup [.str "one", .int 1, .int 1], .tup [.str "most", .int 0, .int 1], .tup [.str "some", .int 1, .int 2], .tup [.str "any", .int 0, .int 2]]
theorem ws_ok : ∀ x ∈ ws, ∃ w l h, x = .tup [.str w, .int l, .int h] ∧ lookD g_COUNTS w = some (.tup [.int l, .int h]) := by
  intro x hx
  simp [ws] at hx
  rcases hx with rfl | rfl | rfl | rfl | rfl
  · exact ⟨_, _, _, rfl, rfl⟩
  · exact ⟨_, _, _, rfl, rfl⟩
  · exact ⟨_, _, _, rfl, rfl⟩
  · exact ⟨_, _, _, rfl, rfl⟩
  · exact ⟨_, _, _, rfl, rfl⟩
/-- one turn of the first loop -/
theorem turn1 (k : Nat) (lo hi : Int) (ds : List D) (hd : ds.length ≤ 100) (r2 : Rv) (hr : r2 = .own (ws.map Vl.d) ∨ r2 = vD (.lst ws)) (c0 c1 c4 u5 u6 u7 u9 u10 u11 : Option Rv) (u8 : Option Vl) (S : Sto) :
    lf G0 (fn G0 T k) (.tp (.cons (.nm 5) (.cons (.nm 6) .nil))) lb1 (.d (.tup [.int lo, .int hi])) [c0, c1, some r2, some (.own (ds.map Vl.d)), c4, u5, u6, u7, u8.map Rv.v, u9, u10, u11] S =
      .ok .nx [c0, c1, some (vD (.lst ws)), some (.own ((ds ++ ws.map fun w => D.tup [.tup [.int lo, .int hi], w]).map Vl.d)), c4, some (vD (.int lo)), some (vD (.int hi)), u7, u8.map Rv.v, u9, u10, u11] S := by
  have hfz : r2.fz = some (.d (.lst ws)) := by
    rcases hr with rfl | rfl
    · simp [Rv.fz]
    · rfl
  obtain ⟨ρ', e, u, hu⟩ := turns_fm (f := cf G0 (fn G0 T k) (.nm 8) (.tup (.cons (.tup (.cons (.var 5) (.cons (.var 6) .nil))) (.cons (.var 8) .nil))) [8]) (S := S)
    (fun ρ => ∃ u, ρ = [c0, c1, some (vD (.lst ws)), some (.own (ds.map Vl.d)), c4, some (vD (.int lo)), some (vD (.int hi)), u7, u, u9, u10, u11]) (fun x => match x with
      | .d w => some (.d (.tup [.tup [.int lo, .int hi], w]))
      | _ => none) (ws.map Vl.d) [] [c0, c1, some (vD (.lst ws)), some (.own (ds.map Vl.d)), c4, some (vD (.int lo)), some (vD (.int hi)), u7, u8.map Rv.v, u9, u10, u11] (fun x hx ρ hρ => by
        obtain ⟨u, rfl⟩ := hρ
        obtain ⟨w, hw, rfl⟩ := List.mem_map.mp hx
        refine ⟨[c0, c1, some (vD (.lst ws)), some (.own (ds.map Vl.d)), c4, some (vD (.int lo)), some (vD (.int hi)), u7, some (vD w), u9, u10, u11], ?_, _, rfl⟩
        simp [cf_at, runDef, prim, un, bin, peek, grab, vD, bindT, bindTs, lenD, modD, addD, subD, mulD, powD, shlD, negD, gtD, ltD, geD, leD, fdivD, ixDD, intD, tupleD, listD, allD, isTy, eqD, D.eqv, D.eqvs, D.deep, D.deeps, wipe, unwipe, noOwn, datas, items, big]) (by simp [ws, big]) ⟨_, rfl⟩
  have e2 : (ws.map Vl.d).filterMap (fun x => match x with
      | .d w => some (.d (.tup [.tup [.int lo, .int hi], w]))
      | _ => none) = (ws.map fun w => D.tup [.tup [.int lo, .int hi], w]).map Vl.d := by simp [ws]
  rw [e2, List.nil_append] at e
  subst hu
  have hl : (ws.map fun w => D.tup [.tup [.int lo, .int hi], w]).length = 5 := rfl
  generalize (ws.map fun w => D.tup [.tup [.int lo, .int hi], w]) = es at *
  simp only [vD] at e
  have h5 : ds.length + es.length ≤ 1000000 := by omega
  generalize ws = W at *
  have nw : ∀ o : Option Vl, (match o.map Rv.v with | some (.own _) => false | _ => true) = true := by intro o; cases o <;> rfl
  have fo : ∀ xs : List D, (Rv.own (xs.map Vl.d)).fz = some (.d (.lst xs)) := fun xs => by simp [Rv.fz]
  cases u8 <;> simp only [Option.map_none, Option.map_some] at e <;> simp [lf_at, lb1, runDef, prim, un, bin, peek, grab, vD, bindT, bindTs, lenD, modD, addD, subD, mulD, powD, shlD, negD, gtD, ltD, geD, leD, fdivD, ixDD, intD, tupleD, listD, allD, isTy, eqD, D.eqv, D.eqvs, D.deep, D.deeps, wipe, unwipe, noOwn, datas, items, big, hfz, e, h5, fo, ownD]
theorem f3 (k : Nat) {n : Int} {S : Sto} (hS : Dr n S) (hn : n ≤ 1000000) (xs : List D) (hx : xs ≠ []) (hl : xs.length ≤ 100) : ∃ x ∈ xs, ∃ S', fn G0 T (k + 2) 3 [.h 1, .d (.lst xs)] S = some (vD x, S') ∧ Dr (n + 1) S' := by
  have hp : 0 < xs.length := List.length_pos_iff.mpr hx
  obtain ⟨i, S', e, i0, i1, hS'⟩ := nx (G := G0) (T := T) (f := 2) rfl k hS hn (many := xs.length) (by omega) (by omega)
  obtain ⟨x, hm, e2⟩ := atI_mem i0 i1
  refine ⟨x, hm, S', ?_, hS'⟩
  rw [fn_succ (d := d3) rfl]
  have h1 := hS.len
  have h2 := hS'.len
  simp only [vD] at e
  simp [d3, runDef, prim, un, bin, peek, grab, vD, bindT, bindTs, lenD, modD, addD, subD, mulD, powD, shlD, negD, gtD, ltD, geD, leD, fdivD, ixDD, intD, tupleD, listD, allD, isTy, eqD, D.eqv, D.eqvs, D.deep, D.deeps, wipe, unwipe, noOwn, datas, items, big, e, e2, h1, gc22, h2]
end Mine

end

section
set_option Elab.async false
set_option linter.all false
set_option maxRecDepth 100000
set_option maxHeartbeats 1000000
namespace Mine
open DL
open PySem (Str)
theorem turn3 (x : D) (hx : ∃ w l h, x = .tup [.str w, .int l, .int h] ∧ lookD g_COUNTS w = some (.tup [.int l, .int h])) (ρ : Env) (S : Sto) (c0 c1 c2 c3 c4 : Option Rv) (hρ : ∃ u5 u6 u7 u8 u9 u10 u11, ρ = [c0, c1, c2, c3, c4, u5, u6, u7, u8, u9, u10, u11]) :
    ∃ ρ', lf G0 (fn G0 T 199) (.tp (.cons (.nm 10) (.cons (.nm 5) (.cons (.nm 6) .nil)))) lb3 (.d x) ρ S = .ok .nx ρ' S ∧ ∃ u5 u6 u7 u8 u9 u10 u11, ρ' = [c0, c1, c2, c3, c4, u5, u6, u7, u8, u9, u10, u11] := by
  obtain ⟨u5, u6, u7, u8, u9, u10, u11, rfl⟩ := hρ
  obtain ⟨w, l, h, rfl, hw⟩ := hx
  have e4 := f4p 197 l h S
  have hgc : G0.d "COUNTS" = some g_COUNTS := rfl
  simp only [vD, Nat.reduceAdd] at e4
  refine ⟨[c0, c1, c2, c3, c4, some (vD (.int l)), some (vD (.int h)), u7, u8, u9, some (vD (.str w)), u11], ?_, _, _, _, _, _, _, _, rfl⟩
  simp [lf_at, lb3, hgc, runDef, prim, un, bin, peek, grab, vD, bindT, bindTs, lenD, modD, addD, subD, mulD, powD, shlD, negD, gtD, ltD, geD, leD, fdivD, ixDD, intD, tupleD, listD, allD, isTy, eqD, D.eqv, D.eqvs, D.deep, D.deeps, wipe, unwipe, noOwn, datas, items, big, gdGet, gdIn, hw, e4]
def ex (lo hi : Int) : List D := ws.map fun w => D.tup [.tup [.int lo, .int hi], w]
theorem ex_ok (lo hi : Int) : ∀ x ∈ ex lo hi, P x := by
  intro x hx
  obtain ⟨w, hw, rfl⟩ := List.mem_map.mp hx
  obtain ⟨n, l, h, rfl, q⟩ := ws_ok w hw
  exact ⟨lo, hi, n, l, h, rfl, q⟩
theorem ex_len (lo hi : Int) : (ex lo hi).length = 5 := rfl
def AA : List D := ((((([] ++ ex 0 0) ++ ex 0 1) ++ ex 0 2) ++ ex 1 1) ++ ex 1 2)
theorem AA_len : AA.length = 25 := rfl
theorem AA_ok : ∀ x ∈ AA, P x := by
  intro x hx
  simp only [AA, List.mem_append, List.not_mem_nil, false_or] at hx
  rcases hx with (((h | h) | h) | h) | h <;> exact ex_ok _ _ x h
theorem turn1x (k : Nat) (lo hi : Int) (ds : List D) (hd : ds.length ≤ 100) (r2 : Rv) (hr : r2 = .own (ws.map Vl.d) ∨ r2 = vD (.lst ws)) (c0 c1 c4 u5 u6 u7 u9 u10 u11 : Option Rv) (S : Sto) :
    lf G0 (fn G0 T k) (.tp (.cons (.nm 5) (.cons (.nm 6) .nil))) lb1 (.d (.tup [.int lo, .int hi])) [c0, c1, some r2, some (.own (ds.map Vl.d)), c4, u5, u6, u7, none, u9, u10, u11] S =
      .ok .nx [c0, c1, some (vD (.lst ws)), some (.own ((ds ++ ex lo hi).map Vl.d)), c4, some (vD (.int lo)), some (vD (.int hi)), u7, none, u9, u10, u11] S :=
  turn1 k lo hi ds hd r2 hr c0 c1 c4 u5 u6 u7 u9 u10 u11 none S
theorem loop1 (ns : List Int) (S : Sto) : loop (lf G0 (fn G0 T 199) (.tp (.cons (.nm 5) (.cons (.nm 6) .nil))) lb1) [.d (.tup [.int 0, .int 0]), .d (.tup [.int 0, .int 1]), .d (.tup [.int 0, .int 2]), .d (.tup [.int 1, .int 1]), .d (.tup [.int 1, .int 2])]
      [some (.v (.scr ns)), some (.v (.h 1)), some (.own (ws.map Vl.d)), some (.own (([] : List D).map Vl.d)), none, none, none, none, none, none, none, none] S =
      .ok .nx [some (.v (.scr ns)), some (.v (.h 1)), some (vD (.lst ws)), some (.own (AA.map Vl.d)), none, some (vD (.int 1)), some (vD (.int 2)), none, none, none, none, none] S := by
  have t1 := turn1x 199 0 0 [] (by decide) (.own (ws.map Vl.d)) (.inl rfl) (some (.v (.scr ns))) (some (.v (.h 1))) none none none none none none none S
  have t2 := turn1x 199 0 1 ([] ++ ex 0 0) (by decide) (vD (.lst ws)) (.inr rfl) (some (.v (.scr ns))) (some (.v (.h 1))) none (some (vD (.int 0))) (some (vD (.int 0))) none none none none S
  have t3 := turn1x 199 0 2 (([] ++ ex 0 0) ++ ex 0 1) (by decide) (vD (.lst ws)) (.inr rfl) (some (.v (.scr ns))) (some (.v (.h 1))) none (some (vD (.int 0))) (some (vD (.int 1))) none none none none S
  have t4 := turn1x 199 1 1 ((([] ++ ex 0 0) ++ ex 0 1) ++ ex 0 2) (by decide) (vD (.lst ws)) (.inr rfl) (some (.v (.scr ns))) (some (.v (.h 1))) none (some (vD (.int 0))) (some (vD (.int 2))) none none none none S
  have t5 := turn1x 199 1 2 (((([] ++ ex 0 0) ++ ex 0 1) ++ ex 0 2) ++ ex 1 1) (by decide) (vD (.lst ws)) (.inr rfl) (some (.v (.scr ns))) (some (.v (.h 1))) none (some (vD (.int 1))) (some (vD (.int 1))) none none none none S
  rw [loop_cons, t1, R.bind_ok, kLoop_nx, loop_cons, t2, R.bind_ok, kLoop_nx, loop_cons, t3, R.bind_ok, kLoop_nx, loop_cons, t4, R.bind_ok, kLoop_nx, loop_cons, t5, R.bind_ok, kLoop_nx, loop_nil]
  rw [AA]
theorem cut_mem {α : Type} {xs : List α} {lo hi : Option Int} {x : α} (h : x ∈ cut xs lo hi) : x ∈ xs := List.mem_of_mem_drop (List.mem_of_mem_take h)
theorem cut_len {α : Type} {xs : List α} {lo hi : Option Int} : (cut xs lo hi).length ≤ xs.length := by
  unfold cut; rw [List.length_take, List.length_drop]; omega
theorem law_true (ns : List Int) (hl : ns.length ≤ 63) : ∃ S, fn G0 T 200 5 [.scr ns] [] = some (vD (.bl true), S) := by
  obtain ⟨S1, e1, s1⟩ := f1 198 ns
  have L1 := loop1 ns S1
  obtain ⟨i, S2, e2, i0, i1, s2⟩ := nx (G := G0) (T := T) (f := 2) rfl 198 s1 (by omega) (many := 25) (by omega) (by omega)
  obtain ⟨ys, ρ3, S3, e3, l3, q3, ⟨u3, hρ3⟩, s3⟩ := turns_ind (f := cf G0 (fn G0 T 199) (.nm 11) (.call 3 (.cons (.var 1) (.cons (.var 3) .nil))) [11])
    (fun j ρ S => (∃ u, ρ = [some (.v (.scr ns)), some (.v (.h 1)), some (vD (.lst ws)), u.1, some (vD (.int i)), some (vD (.int 1)), some (vD (.int 2)), none, none, none, none, u.2] ∧ (u.1 = some (.own (AA.map Vl.d)) ∨ u.1 = some (vD (.lst AA)))) ∧ Dr (1 + j) S) (fun v => ∃ x ∈ AA, v = .d x) 5 (fun j x ρ S hj hI => by
      obtain ⟨⟨u, rfl, hu⟩, hS⟩ := hI
      obtain ⟨x', hx', S', e, hS'⟩ := f3 197 hS (by omega) AA (by decide) (by decide)
      refine ⟨.d x', [some (.v (.scr ns)), some (.v (.h 1)), some (vD (.lst ws)), some (vD (.lst AA)), some (vD (.int i)), some (vD (.int 1)), some (vD (.int 2)), none, none, none, none, some (.v x)], S', ?_, ⟨x', hx', rfl⟩, ⟨(_, _), rfl, .inr rfl⟩, ?_⟩
      · generalize AA = A at *
        have fo : ∀ xs : List D, (Rv.own (xs.map Vl.d)).fz = some (.d (.lst xs)) := fun xs => by simp [Rv.fz]
        simp only [vD, Nat.reduceAdd] at e
        rcases hu with h | h <;> rw [h] <;> simp [cf_at, runDef, prim, un, bin, peek, grab, vD, bindT, bindTs, lenD, modD, addD, subD, mulD, powD, shlD, negD, gtD, ltD, geD, leD, fdivD, ixDD, intD, tupleD, listD, allD, isTy, eqD, D.eqv, D.eqvs, D.deep, D.deeps, wipe, unwipe, noOwn, datas, items, big, e, fo]
      · refine hS'.mono ?_
        omega) (nats 5) [] 0 [some (.v (.scr ns)), some (.v (.h 1)), some (vD (.lst ws)), some (.own (AA.map Vl.d)), some (vD (.int i)), some (vD (.int 1)), some (vD (.int 2)), none, none, none, none, none] S2 (by decide) (by decide) ⟨⟨(_, _), rfl, .inl rfl⟩, s2.mono (by omega)⟩
  obtain ⟨hρ3, hu3⟩ := hρ3
  subst hρ3
  have hys : ∃ ds : List D, ys = ds.map Vl.d ∧ ∀ d ∈ ds, P d := by
    clear e3 l3
    induction ys with
    | nil => exact ⟨[], rfl, by simp⟩
    | cons v ys ih =>
      obtain ⟨ds, rfl, h2⟩ := ih (fun y hy => q3 y (by simp [hy]))
      obtain ⟨d, h1, rfl⟩ := q3 v (by simp)
      exact ⟨d :: ds, rfl, by simpa using ⟨AA_ok d h1, h2⟩⟩
  obtain ⟨ds, rfl, hds⟩ := hys
  have ld : ds.length = 5 := by simpa [nats] using l3
  generalize hB : cut AA (some i) none ++ cut AA none (some i) ++ ds = B
  have hBP : ∀ x ∈ B, P x := by
    intro x hx
    rw [← hB] at hx
    simp only [List.mem_append] at hx
    rcases hx with (h | h) | h
    · exact AA_ok x (cut_mem h)
    · exact AA_ok x (cut_mem h)
    · exact hds x h
  have k1 : (cut AA (some i) none).length ≤ 25 := AA_len ▸ cut_len
  have k2 : (cut AA none (some i)).length ≤ 25 := AA_len ▸ cut_len
  obtain ⟨ρ4, e4, v5, v6, v7, v8, v9, v10, v11, rfl⟩ := loop_all (f := lf G0 (fn G0 T 199) (.tp (.cons (.nm 7) (.cons (.nm 8) .nil))) lb2) (S := S3)
    (fun ρ => ∃ u5 u6 u7 u8 u9 u10 u11, ρ = [some (.v (.scr ns)), some (.v (.h 1)), some (vD (.lst ws)), some (vD (.lst B)), some (vD (.int i)), u5, u6, u7, u8, u9, u10, u11]) (B.map Vl.d) [some (.v (.scr ns)), some (.v (.h 1)), some (vD (.lst ws)), some (vD (.lst B)), some (vD (.int i)), some (vD (.int 1)), some (vD (.int 2)), none, none, none, none, none] (fun x hx ρ hρ => by
      obtain ⟨y, hy, rfl⟩ := List.mem_map.mp hx
      exact turn2 y (hBP y hy) ρ S3 _ _ _ _ _ hρ) ⟨_, _, _, _, _, _, _, rfl⟩
  obtain ⟨ρ5, e5, _⟩ := loop_all (f := lf G0 (fn G0 T 199) (.tp (.cons (.nm 10) (.cons (.nm 5) (.cons (.nm 6) .nil)))) lb3) (S := S3)
    (fun ρ => ∃ u5 u6 u7 u8 u9 u10 u11, ρ = [some (.v (.scr ns)), some (.v (.h 1)), some (vD (.lst ws)), some (vD (.lst B)), some (vD (.int i)), u5, u6, u7, u8, u9, u10, u11]) (ws.map Vl.d) [some (.v (.scr ns)), some (.v (.h 1)), some (vD (.lst ws)), some (vD (.lst B)), some (vD (.int i)), v5, v6, v7, v8, v9, v10, v11] (fun x hx ρ hρ => by
      obtain ⟨y, hy, rfl⟩ := List.mem_map.mp hx
      exact turn3 y (ws_ok y hy) ρ S3 _ _ _ _ _ hρ) ⟨_, _, _, _, _, _, _, rfl⟩
  rw [fn_succ (d := d5) rfl, d5_eq]
  refine ⟨gc 0 (vD (.bl true)) S3, ?_⟩
  have fo : ∀ xs : List D, (Rv.own (xs.map Vl.d)).fz = some (.d (.lst xs)) := fun xs => by simp [Rv.fz]
  have hws : [Vl.d (.tup [.str "none", .int 0, .int 0]), .d (.tup [.str "one", .int 1, .int 1]), .d (.tup [.str "most", .int 0, .int 1]), .d (.tup [.str "some", .int 1, .int 2]), .d (.tup [.str "any", .int 0, .int 2])] = ws.map Vl.d := rfl
  have hg : gdLen (G0.d "COUNTS") = some (vD (.int 5)) := rfl
  have v1 : (cut AA (some i) none).length + (cut AA none (some i)).length ≤ 1000000 := by omega
  have v2 : (cut AA (some i) none).length + (cut AA none (some i)).length + ds.length ≤ 1000000 := by omega
  have v3 : (cut AA (some i) none).length + ((cut AA none (some i)).length + ds.length) ≤ 1000000 := by omega
  have hB2 : cut AA (some i) none ++ (cut AA none (some i) ++ ds) = B := by rw [← List.append_assoc]; exact hB
  generalize AA = A at *
  generalize ws = W at *
  simp only [vD, List.map_nil, Nat.reduceAdd, List.nil_append] at *
  simp [runDef, prim, un, bin, peek, grab, vD, bindT, bindTs, lenD, modD, addD, subD, mulD, powD, shlD, negD, gtD, ltD, geD, leD, fdivD, ixDD, intD, tupleD, listD, allD, isTy, eqD, D.eqv, D.eqvs, D.deep, D.deeps, wipe, unwipe, noOwn, datas, items, big, hws, e1, L1, e2, fo, slice, cutD, v1, v2, v3, hB2, e3, e4, hg, e5]
end Mine

end

section
set_option Elab.async false
set_option linter.all false
set_option maxRecDepth 100000
namespace Mine
open PySem L2 DL
theorem walk {l : PySem.W.OpenLaw} {q : Program} {loose : List Str} {XP : (Str → Option Value) → Heap → Prop} {YP : World → Heap → Prop} {d : DefRec} {K : Params → PySem.W.Frag} (hn : l.most = some 63) (hdf : d.params.defaults = [])
    (hY : ∀ (w : World) (h : Heap), YP w h → (K w.params).In h)
    (F : ∀ (w : World) (mg : Str → Option Value) (fa : Addr) (h : Heap), (K w.params).In h → h.Ns mainGlobals mg → mg d.name = some (.ref fa) →
      ∃ fd : FuncData, (∀ (s : Shared) (u : Value), BindsTo s fd ⟨[u], []⟩ [("_law_script", u)]) ∧ ∀ base : Heap, (K w.params).In base → base.Ns mainGlobals mg → FnOk l.prog w (K w.params) mg base CX0 200 fa fd ["_law_script"] (spD (K w.params) (fn G0 T 200 5))) :
    PySem.W.WalkO q loose XP YP l.row.toRowW d [] (fun f vs => PySem.call f vs) :=
  L2.walk_of (n := 63) (k := 200) (x := "_law_script") (CX := fun _ => CX0) (sp := fun w => spD (K w.params) (fn G0 T 200 5)) hn (by decide) hdf ⟨rfl, by decide, by decide⟩ hY F (fun w H a ns hl hO hS => by
    obtain ⟨S, e⟩ := law_true ns hl
    exact law_sp hO hS e) fun _ _ _ _ _ z => z
theorem all_mk {l : PySem.W.OpenLaw} {w : World} {K : PySem.W.Frag} {h : Heap} {mg : Str → Option Value} {fa : Addr} (X : K.In h) (G : h.Ns mainGlobals mg) (hfa : mg "law" = some (.ref fa))
    {f0 : Addr} {oc0 : Value} {od0 an0 : Option Addr} {sl0 : Array (Option Value)} {kV0 dc0 pm0 cd0 ct0 : Value}
    {f1 : Addr} {oc1 : Value} {od1 an1 : Option Addr} {sl1 : Array (Option Value)} {kV1 dc1 pm1 cd1 ct1 : Value}
    {f2 : Addr} {oc2 : Value} {od2 an2 : Option Addr} {sl2 : Array (Option Value)} {kV2 dc2 pm2 cd2 ct2 : Value}
    {f3 : Addr} {oc3 : Value} {od3 an3 : Option Addr} {sl3 : Array (Option Value)} {kV3 dc3 pm3 cd3 ct3 : Value}
    {f4 : Addr} {oc4 : Value} {od4 an4 : Option Addr} {sl4 : Array (Option Value)} {kV4 dc4 pm4 cd4 ct4 : Value}
    {f5 : Addr} {oc5 : Value} {od5 an5 : Option Addr} {sl5 : Array (Option Value)} {kV5 dc5 pm5 cd5 ct5 : Value}
    {da1 : Addr} {dn1 : Nat}
    {hh2 : Int} {ks2 : Nat}
    {tk4 : Nat}
    {tk5 : Nat}
    {ad3 : Addr} {oz3 : Option Addr} {sq3 : Array (Option Value)} {nn3 : Nat}
    {hh7 : Int} {ks7 : Nat}
    {tk9 : Nat}
    {tk10 : Nat}
    {ad8 : Addr} {oz8 : Option Addr} {sq8 : Array (Option Value)} {nn8 : Nat}
    {hh12 : Int} {ks12 : Nat}
    {tk14 : Nat}
    {tk15 : Nat}
    {ad13 : Addr} {oz13 : Option Addr} {sq13 : Array (Option Value)} {nn13 : Nat}
    {hh17 : Int} {ks17 : Nat}
    {tk19 : Nat}
    {tk20 : Nat}
    {ad18 : Addr} {oz18 : Option Addr} {sq18 : Array (Option Value)} {nn18 : Nat}
    {hh22 : Int} {ks22 : Nat}
    {tk24 : Nat}
    {tk25 : Nat}
    {ad23 : Addr} {oz23 : Option Addr} {sq23 : Array (Option Value)} {nn23 : Nat}
    (a0 : PySem.W.nsIn K mainGlobals "keeps" = some (some (.ref f0))) (l0 : K.lookup f0 = some ⟨oc0, od0, .func (PySem.W.fnOf "keeps" "keeps" (defArgs (top 2)) (defBody (top 2)) (defScope (top 2)) .none kV0 dc0 pm0 an0 cd0 ct0), sl0⟩) (c0 : PySem.W.codeIn K cd0 "keeps" = true) (k0 : PySem.W.keepIn K (.ref f0) = true)
    (a1 : PySem.W.nsIn K mainGlobals "_law_draws" = some (some (.ref f1))) (l1 : K.lookup f1 = some ⟨oc1, od1, .func (PySem.W.fnOf "_law_draws" "_law_draws" (defArgs (top 4)) (defBody (top 4)) (defScope (top 4)) .none kV1 dc1 pm1 an1 cd1 ct1), sl1⟩) (c1 : PySem.W.codeIn K cd1 "_law_draws" = true) (k1 : PySem.W.keepIn K (.ref f1) = true)
    (a2 : PySem.W.nsIn K mainGlobals "_law_next" = some (some (.ref f2))) (l2 : K.lookup f2 = some ⟨oc2, od2, .func (PySem.W.fnOf "_law_next" "_law_next" (defArgs (top 5)) (defBody (top 5)) (defScope (top 5)) .none kV2 dc2 pm2 an2 cd2 ct2), sl2⟩) (c2 : PySem.W.codeIn K cd2 "_law_next" = true) (k2 : PySem.W.keepIn K (.ref f2) = true)
    (a3 : PySem.W.nsIn K mainGlobals "_law_one" = some (some (.ref f3))) (l3 : K.lookup f3 = some ⟨oc3, od3, .func (PySem.W.fnOf "_law_one" "_law_one" (defArgs (top 6)) (defBody (top 6)) (defScope (top 6)) .none kV3 dc3 pm3 an3 cd3 ct3), sl3⟩) (c3 : PySem.W.codeIn K cd3 "_law_one" = true) (k3 : PySem.W.keepIn K (.ref f3) = true)
    (a4 : PySem.W.nsIn K mainGlobals "_law_alike" = some (some (.ref f4))) (l4 : K.lookup f4 = some ⟨oc4, od4, .func (PySem.W.fnOf "_law_alike" "_law_alike" (defArgs (top 7)) (defBody (top 7)) (defScope (top 7)) .none kV4 dc4 pm4 an4 cd4 ct4), sl4⟩) (c4 : PySem.W.codeIn K cd4 "_law_alike" = true) (k4 : PySem.W.keepIn K (.ref f4) = true)
    (a5 : PySem.W.nsIn K mainGlobals "law" = some (some (.ref f5))) (l5 : K.lookup f5 = some ⟨oc5, od5, .func (PySem.W.fnOf "law" "law" (defArgs (top 8)) (defBody (top 8)) (defScope (top 8)) .none kV5 dc5 pm5 an5 cd5 ct5), sl5⟩) (c5 : PySem.W.codeIn K cd5 "law" = true) (k5 : PySem.W.keepIn K (.ref f5) = true)
    (z0 : PySem.W.nsIn K mainGlobals "len" = some none)
    (z1 : PySem.W.nsIn K mainGlobals "int" = some none)
    (z2 : PySem.W.nsIn K mainGlobals "tuple" = some none)
    (z3 : PySem.W.nsIn K mainGlobals "list" = some none)
    (z4 : PySem.W.nsIn K mainGlobals "all" = some none)
    (z5 : PySem.W.nsIn K mainGlobals "isinstance" = some none)
    (z6 : PySem.W.nsIn K mainGlobals "bool" = some none)
    (z7 : PySem.W.nsIn K mainGlobals "str" = some none)
    (z8 : PySem.W.nsIn K mainGlobals "range" = some none)
    (z9 : PySem.W.nsIn K mainGlobals "zip" = some none)
    (q27 : PySem.W.nsIn K mainGlobals "COUNTS" = some (some (.ref da1)))
    (q28 : K.lookup da1 = some ⟨.type "dict", none, .dict #[⟨hh2, .str "none" ks2, .ref ad3⟩, ⟨hh7, .str "one" ks7, .ref ad8⟩, ⟨hh12, .str "most" ks12, .ref ad13⟩, ⟨hh17, .str "some" ks17, .ref ad18⟩, ⟨hh22, .str "any" ks22, .ref ad23⟩] dn1, #[]⟩)
    (q29 : PySem.W.KeysLit w.params [⟨hh2, .str "none" ks2, .ref ad3⟩, ⟨hh7, .str "one" ks7, .ref ad8⟩, ⟨hh12, .str "most" ks12, .ref ad13⟩, ⟨hh17, .str "some" ks17, .ref ad18⟩, ⟨hh22, .str "any" ks22, .ref ad23⟩])
    (q30 : (da1 == sysModules) = false)
    (q6 : K.lookup ad3 = some ⟨.type "tuple", oz3, .seq #[.int (0) tk4, .int (0) tk5] nn3, sq3⟩)
    (q11 : K.lookup ad8 = some ⟨.type "tuple", oz8, .seq #[.int (1) tk9, .int (1) tk10] nn8, sq8⟩)
    (q16 : K.lookup ad13 = some ⟨.type "tuple", oz13, .seq #[.int (0) tk14, .int (1) tk15] nn13, sq13⟩)
    (q21 : K.lookup ad18 = some ⟨.type "tuple", oz18, .seq #[.int (1) tk19, .int (2) tk20] nn18, sq18⟩)
    (q26 : K.lookup ad23 = some ⟨.type "tuple", oz23, .seq #[.int (0) tk24, .int (2) tk25] nn23, sq23⟩)
    : ∃ fd : FuncData, (∀ (s : Shared) (v : Value), BindsTo s fd ⟨[v], []⟩ [("_law_script", v)]) ∧ ∀ base : Heap, K.In base → base.Ns mainGlobals mg → FnOk l.prog w K mg base CX0 200 fa fd ["_law_script"] (spD K (fn G0 T 200 5)) := by
  refine law_end X G hfa ⟨fun x hx => ?_, ?_, ?_⟩ (all_text K (defAt_mk a0 l0 c0 k0) (defAt_mk a1 l1 c1 k1) (defAt_mk a2 l2 c2 k2) (defAt_mk a3 l3 c3 k3) (defAt_mk a4 l4 c4 k4) (defAt_mk a5 l5 c5 k5)) (d := d5) rfl (defAt_mk a5 l5 c5 k5) x5
  · simp only [blts, List.mem_cons, List.not_mem_nil, or_false] at hx
    rcases hx with rfl | rfl | rfl | rfl | rfl | rfl | rfl | rfl | rfl | rfl
    · exact PySem.W.mg_none_of X G z0
    · exact PySem.W.mg_none_of X G z1
    · exact PySem.W.mg_none_of X G z2
    · exact PySem.W.mg_none_of X G z3
    · exact PySem.W.mg_none_of X G z4
    · exact PySem.W.mg_none_of X G z5
    · exact PySem.W.mg_none_of X G z6
    · exact PySem.W.mg_none_of X G z7
    · exact PySem.W.mg_none_of X G z8
    · exact PySem.W.mg_none_of X G z9
  · intro x d e
    simp only [G0] at e
    cases e
  · intro x d e
    simp only [G0] at e
    split at e
    · rename_i hx; subst hx; cases e; exact ⟨da1, PySem.W.mg_of X G q27, ⟨_, _, q28, q29, ⟨_, _, rfl, ⟨_, rfl⟩, ⟨.ref ad3, rfl, fun fz H => (by unfold RD; exact ⟨ad3, [.int (0), .int (0)], rfl, .inr ⟨_, _, _, q6, rfl, rfl, (show 2 ≤ sizeLine by decide), (.cons ⟨_, rfl⟩ (.cons ⟨_, rfl⟩ .nil))⟩, by unfold RDs; exact ⟨_, _, rfl, (by unfold RD; rfl), by unfold RDs; exact ⟨_, _, rfl, (by unfold RD; rfl), by unfold RDs; exact rfl⟩⟩⟩)⟩, ⟨_, _, rfl, ⟨_, rfl⟩, ⟨.ref ad8, rfl, fun fz H => (by unfold RD; exact ⟨ad8, [.int (1), .int (1)], rfl, .inr ⟨_, _, _, q11, rfl, rfl, (show 2 ≤ sizeLine by decide), (.cons ⟨_, rfl⟩ (.cons ⟨_, rfl⟩ .nil))⟩, by unfold RDs; exact ⟨_, _, rfl, (by unfold RD; rfl), by unfold RDs; exact ⟨_, _, rfl, (by unfold RD; rfl), by unfold RDs; exact rfl⟩⟩⟩)⟩, ⟨_, _, rfl, ⟨_, rfl⟩, ⟨.ref ad13, rfl, fun fz H => (by unfold RD; exact ⟨ad13, [.int (0), .int (1)], rfl, .inr ⟨_, _, _, q16, rfl, rfl, (show 2 ≤ sizeLine by decide), (.cons ⟨_, rfl⟩ (.cons ⟨_, rfl⟩ .nil))⟩, by unfold RDs; exact ⟨_, _, rfl, (by unfold RD; rfl), by unfold RDs; exact ⟨_, _, rfl, (by unfold RD; rfl), by unfold RDs; exact rfl⟩⟩⟩)⟩, ⟨_, _, rfl, ⟨_, rfl⟩, ⟨.ref ad18, rfl, fun fz H => (by unfold RD; exact ⟨ad18, [.int (1), .int (2)], rfl, .inr ⟨_, _, _, q21, rfl, rfl, (show 2 ≤ sizeLine by decide), (.cons ⟨_, rfl⟩ (.cons ⟨_, rfl⟩ .nil))⟩, by unfold RDs; exact ⟨_, _, rfl, (by unfold RD; rfl), by unfold RDs; exact ⟨_, _, rfl, (by unfold RD; rfl), by unfold RDs; exact rfl⟩⟩⟩)⟩, ⟨_, _, rfl, ⟨_, rfl⟩, ⟨.ref ad23, rfl, fun fz H => (by unfold RD; exact ⟨ad23, [.int (0), .int (2)], rfl, .inr ⟨_, _, _, q26, rfl, rfl, (show 2 ≤ sizeLine by decide), (.cons ⟨_, rfl⟩ (.cons ⟨_, rfl⟩ .nil))⟩, by unfold RDs; exact ⟨_, _, rfl, (by unfold RD; rfl), by unfold RDs; exact ⟨_, _, rfl, (by unfold RD; rfl), by unfold RDs; exact rfl⟩⟩⟩)⟩, rfl⟩⟩⟩⟩⟩⟩, q30, by decide +kernel, by decide⟩
    cases e
end Mine

end
open PySem PySem.W PyProof.Rows
set_option maxRecDepth 100000 in
set_option maxHeartbeats 0 in
theorem PySem.Challenge.cw_modegoals_k40_words_kept_holds : PySem.Challenge.rw_modegoals_k40_words_kept.Holds := by
  w_on; o_law; k_head; (case hw => w_witness2)
  k_fill
  refine Mine.walk (l := PySem.Challenge.rw_modegoals_k40_words_kept) rfl rfl (fun w h Y => PySem.W.kIn_of Y) ?F
  case F =>
    intro w mg fa h KX G hmg
    refine' Mine.all_mk KX G hmg ?a0 ?l0 ?c0 ?k0 ?a1 ?l1 ?c1 ?k1 ?a2 ?l2 ?c2 ?k2 ?a3 ?l3 ?c3 ?k3 ?a4 ?l4 ?c4 ?k4 ?a5 ?l5 ?c5 ?k5 ?z0 ?z1 ?z2 ?z3 ?z4 ?z5 ?z6 ?z7 ?z8 ?z9 ?q27 ?q28 ?q29 ?q30 ?q6 ?q11 ?q16 ?q21 ?q26
    (case a0 => k_is); (case l0 => k_is); (case c0 => k_is); (case k0 => k_is)
    (case a1 => k_is); (case l1 => k_is); (case c1 => k_is); (case k1 => k_is)
    (case a2 => k_is); (case l2 => k_is); (case c2 => k_is); (case k2 => k_is)
    (case a3 => k_is); (case l3 => k_is); (case c3 => k_is); (case k3 => k_is)
    (case a4 => k_is); (case l4 => k_is); (case c4 => k_is); (case k4 => k_is)
    (case a5 => k_is); (case l5 => k_is); (case c5 => k_is); (case k5 => k_is)
    (case z0 => k_is)
    (case z1 => k_is)
    (case z2 => k_is)
    (case z3 => k_is)
    (case z4 => k_is)
    (case z5 => k_is)
    (case z6 => k_is)
    (case z7 => k_is)
    (case z8 => k_is)
    (case z9 => k_is)
    (case q27 => k_is)
    (case q28 => k_is)
    (case q29 => exact ⟨⟨_, _, rfl, rfl⟩, ⟨⟨_, _, rfl, rfl⟩, ⟨⟨_, _, rfl, rfl⟩, ⟨⟨_, _, rfl, rfl⟩, ⟨⟨_, _, rfl, rfl⟩, trivial⟩⟩⟩⟩⟩)
    (case q30 => decide)
    (case q6 => k_is)
    (case q11 => k_is)
    (case q16 => k_is)
    (case q21 => k_is)
    (case q26 => k_is)
