import PyProof.Rows.All
import Wide.All
import OpenK.AllK
import Wide.FinOn
import PyProof.P3Statements
import HandS.ForMost
import HandS.Zip
import HandS.TupAny
import HandS.Wide
import HandS.Gcd
import HandS.Star
import HandS.ExcOwn
import HandS.IsInst
import HandS.TryMany
import HandS.Style
import HandS.Defaults
import HandS.Head0
import HandS.Head1
import HandS.Head2
import HandS.Head3
import HandS.HeadEnd
import HandS.HeadHook1
import HandS.HeadHook2
import PySem.Challenge.RW_fallorflow_k04_whole_lowest_vectors_and
section
set_option linter.all false
/-! The small interpreter: values, arena, terms, what they compute. No program, no heap in sight. -/
namespace Q
open PySem

/-- values: tuples by value, mutable things by their place in the arena; rl: a list that nobody writes (the script) -/
inductive D where
  | non | bl (b : Bool) | int (i : Int) | str (x : List Nat) | tup (ds : List D) | rl (ds : List D) | ref (n : Nat)

mutual
def D.eqb : D → D → Bool
  | .non, .non => true
  | .bl a, .bl b => a == b
  | .int a, .int b => decide (a = b)
  | .str a, .str b => decide (a = b)
  | .tup a, .tup b => D.eqbs a b
  | .rl a, .rl b => D.eqbs a b
  | .ref a, .ref b => Nat.beq a b
  | _, _ => false
def D.eqbs : List D → List D → Bool
  | [], [] => true
  | a :: as, b :: bs => D.eqb a b && D.eqbs as bs
  | _, _ => false
end
mutual
theorem D.eqb_eq : ∀ {a b : D}, D.eqb a b = true → a = b
  | .non, b, h => by cases b <;> first | rfl | (simp [D.eqb] at h)
  | .bl a, b, h => by cases b <;> simp [D.eqb] at h; rw [h]
  | .int a, b, h => by cases b <;> simp [D.eqb] at h; rw [h]
  | .str a, b, h => by cases b <;> simp [D.eqb] at h; rw [h]
  | .tup a, b, h => by
    cases b <;> simp [D.eqb] at h
    rw [D.eqbs_eq h]
  | .rl a, b, h => by
    cases b <;> simp [D.eqb] at h
    rw [D.eqbs_eq h]
  | .ref a, b, h => by cases b <;> simp [D.eqb] at h; rw [h]
theorem D.eqbs_eq : ∀ {a b : List D}, D.eqbs a b = true → a = b
  | [], b, h => by cases b <;> first | rfl | (simp [D.eqbs] at h)
  | a :: as, b, h => by
    cases b with
    | nil => simp [D.eqbs] at h
    | cons b bs =>
      simp [D.eqbs] at h
      rw [D.eqb_eq h.1, D.eqbs_eq h.2]
end
mutual
/-- all places named in it lie below n -/
def D.refsLt (n : Nat) : D → Bool
  | .tup ds => D.refsLt_all n ds
  | .rl ds => D.refsLt_all n ds
  | .ref k => Nat.blt k n
  | _ => true
def D.refsLt_all (n : Nat) : List D → Bool
  | [] => true
  | d :: ds => D.refsLt n d && D.refsLt_all n ds
end

/-- what stands in the arena -/
inductive Ob where
  | lst (ds : List D)
def Ob.eqb : Ob → Ob → Bool
  | .lst a, .lst b => D.eqbs a b
theorem Ob.eqb_eq : ∀ {a b : Ob}, Ob.eqb a b = true → a = b
  | .lst a, .lst b, h => by rw [D.eqbs_eq h]
def Ob.refsLt (n : Nat) : Ob → Bool
  | .lst ds => D.refsLt_all n ds

abbrev Ar := List Ob
abbrev Env := List (Option D)
/-- what a term comes to: a value, or a new list that has no place yet -/
inductive Rv where
  | d (d : D) | l (ds : List D)
inductive Out (α : Type) where
  | ok (a : α) (M : Ar) | exc (c : Nat) (p : D) (M : Ar) | stuck
abbrev Md (α : Type) := Ar → Out α
def ret {α : Type} (a : α) : Md α := fun M => .ok a M
def bnd {α β : Type} (x : Md α) (f : α → Md β) : Md β := fun M => match x M with
  | .ok a M' => f a M'
  | .exc c p M' => .exc c p M'
  | .stuck => .stuck
def stk {α : Type} : Md α := fun _ => .stuck
/-- what may fail and changes nothing -/
def opt {α : Type} (f : Ar → Option α) : Md α := fun M => match f M with
  | some a => .ok a M
  | none => .stuck
/-- a new list gets its place -/
def settle : Rv → Md D
  | .d d => ret d
  | .l ds => fun M => .ok (.ref M.length) (M ++ [.lst ds])
def line : Nat := 1000000

/-! ### operators -/
inductive Bop where
  | add | sub | mul | div | mod | pow
inductive Cop where
  | eq | ne | lt | le | gt | ge | is_ | isn | in_ | nin

/-- the items of a list -/
def asL (M : Ar) : Rv → Option (List D)
  | .l ds => some ds
  | .d (.ref n) => match M[n]? with
    | some (.lst ds) => some ds
    | _ => none
  | _ => none
/-- the items of a list or a tuple -/
def asS (M : Ar) : Rv → Option (List D)
  | .l ds => some ds
  | .d (.tup ds) => some ds
  | .d (.rl ds) => some ds
  | .d (.ref n) => match M[n]? with
    | some (.lst ds) => some ds
    | _ => none
  | _ => none
/-- data, for == -/
def toP : Nat → Ar → D → Option PyData
  | 0, _, _ => none
  | _ + 1, _, .non => some .none
  | _ + 1, _, .bl b => some (.bool b)
  | _ + 1, _, .int i => some (.int i)
  | _ + 1, _, .str x => if x.all (· < 1114112) then some (.str ⟨x.toArray⟩) else none
  | k + 1, M, .tup ds => (ds.mapM (toP k M)).map .tuple
  | k + 1, M, .rl ds => (ds.mapM (toP k M)).map .list
  | k + 1, M, .ref n => match M[n]? with
    | some (.lst ds) => (ds.mapM (toP k M)).map .list
    | _ => none
def toPR (M : Ar) : Rv → Option PyData
  | .d d => toP 30 M d
  | .l ds => (ds.mapM (toP 29 M)).map .list
def bits (i : Int) : Nat := i.natAbs.log2 + 1
def mulOk (i j : Int) : Bool := decide (bits i + bits j < 900000)
def binI : Bop → Int → Int → Option Int
  | .add, i, j => some (i + j)
  | .sub, i, j => some (i - j)
  | .mul, i, j => if mulOk i j then some (i * j) else none
  | .div, i, j => if 0 < j && decide (bits j < 9000) then some (i / j) else none
  | .mod, i, j => if j ≠ 0 then some (i.fmod j) else none
  | .pow, i, j => if 0 ≤ j && decide ((bits i : Int) * j ≤ 1000000) then some (i ^ j.toNat) else none
def binStr (o : Bop) (a b : List Nat) : Option Rv := match o with
  | .add => if a.length + b.length ≤ line then some (.d (.str (a ++ b))) else none
  | _ => none
def binTup (o : Bop) (a b : List D) : Option Rv := match o with
  | .add => if a.length + b.length ≤ line then some (.d (.tup (a ++ b))) else none
  | _ => none
def catL (M : Ar) (x y : Rv) : Option Rv := match asL M x, asL M y with
  | some a, some b => if a.length + b.length ≤ line then some (.l (a ++ b)) else none
  | _, _ => none
def repL (M : Ar) (x y : Rv) : Option Rv := match asL M x, y with
  | some a, .d (.int k) => if -1000000 < k ∧ k < 1000000 ∧ a.length * k.toNat ≤ line then some (.l (List.replicate k.toNat a).flatten) else none
  | _, _ => none
def binLst (o : Bop) (x y : Rv) (M : Ar) : Option Rv := match o with
  | .add => catL M x y
  | .mul => repL M x y
  | _ => none
def binInt (o : Bop) (i j : Int) : Option Rv := match binI o i j with
  | some k => some (.d (.int k))
  | none => none
def binop (o : Bop) (x y : Rv) (M : Ar) : Option Rv := match x, y with
  | .d (.int i), .d (.int j) => binInt o i j
  | .d (.str a), .d (.str b) => binStr o a b
  | .d (.tup a), .d (.tup b) => binTup o a b
  | x, y => binLst o x y M
def isNon : Rv → Bool
  | .d .non => true
  | _ => false
/-- is the list b somewhere in a, side by side -/
def subStr (a b : List Nat) : Bool := match a with
  | [] => b.isEmpty
  | x :: xs => b.isPrefixOf (x :: xs) || subStr xs b
def eqR (M : Ar) (x y : Rv) : Option Bool := match toPR M x, toPR M y with
  | some a, some b => some (PyData.eqv a b)
  | _, _ => none
def inR (M : Ar) (x y : Rv) : Option Bool := match toPR M x, (asS M y).bind (fun ds => ds.mapM (toP 29 M)) with
  | some a, some bs => some (bs.any fun b => PyData.eqv b a)
  | _, _ => none
def cmpI (f : Int → Int → Bool) (x y : Rv) : Option Bool := match x, y with
  | .d (.int i), .d (.int j) => some (f i j)
  | _, _ => none
def cmpEq (x y : Rv) (M : Ar) : Option Bool := match x, y with
  | .d (.int i), .d (.int j) => some (decide (i = j))
  | x, y => eqR M x y
def cmpIn (x y : Rv) (M : Ar) : Option Bool := match x, y with
  | .d (.str _), .d (.str _) => none
  | x, y => inR M x y
def cmpIs (x y : Rv) : Option Bool := if isNon y then some (isNon x) else none
def cmpop (o : Cop) (x y : Rv) (M : Ar) : Option Bool := match o with
  | .lt => cmpI (fun i j => decide (i < j)) x y
  | .le => cmpI (fun i j => decide (i ≤ j)) x y
  | .gt => cmpI (fun i j => decide (j < i)) x y
  | .ge => cmpI (fun i j => decide (j ≤ i)) x y
  | .eq => cmpEq x y M
  | .ne => (cmpEq x y M).map (!·)
  | .is_ => cmpIs x y
  | .isn => (cmpIs x y).map (!·)
  | .in_ => cmpIn x y M
  | .nin => (cmpIn x y M).map (!·)

/-! ### terms -/
/-- built-in functions -/
inductive Blt where
  | len | abs | int | max | min | sum | all | any | tuple | list | gcd | sorted | lenset | str
/-- types that isinstance is asked for -/
inductive Ty where
  | int | bool | str | tuple | list | dict
  deriving DecidableEq
inductive Mth where
  | append | pop | extend
mutual
inductive Tm where
  | var (i : Nat)
  | cst (d : D)
  | neg (a : Tm)
  | nt (a : Tm)
  | bin (o : Bop) (a b : Tm)
  | cmp (o : Cop) (a b : Tm)
  | chain (o p : Cop) (a b c : Tm)
  | and (a b : Tm)
  | or (a b : Tm)
  | ite (c a b : Tm)
  | tup (es : Es)
  | lst (es : Es)
  | idx (a b : Tm)
  | slc (a lo hi : Tm)
  | call (f : Nat) (es : Es)
  | blt (b : Blt) (es : Es)
  | isin (a : Tm) (ts : List Ty)
  | comp (own : List Nat) (it : Itm) (g : Tg) (c e : Tm)
  | meth (m : Mth) (a : Tm) (es : Es)
  | never
inductive Es where
  | nil
  | cons (e : Tm) (es : Es)
  | star (e : Tm) (es : Es)
inductive Itm where
  | seq (a : Tm)
  | rng (es : Es)
  | zip (a b : Tm)
  | enum (a : Tm)
inductive Tg where
  | nm (i : Nat)
  | tp (gs : Tgs)
inductive Tgs where
  | nil
  | cons (g : Tg) (gs : Tgs)
end
mutual
inductive Stm where
  | asg (g : Tg) (e : Tm)
  | par (js : List Nat) (es : Es)
  | put (a i e : Tm)
  | expr (e : Tm)
  | ret (e : Tm)
  | retN
  | ite (c : Tm) (a b : Stms)
  | for_ (it : Itm) (g : Tg) (s : Stms)
  | while_ (c : Tm) (s : Stms)
  | pass
  | brk
  | cont
  | never
inductive Stms where
  | nil
  | cons (s : Stm) (r : Stms)
end

/-! ### what they compute -/
def wipe (env : Env) : List Nat → Env
  | [] => env
  | v :: vs => (wipe env vs).set v none
def ixD (n : Nat) (i : Int) : Option Nat := if 0 ≤ i then (if i < n then some i.toNat else none) else if -(n : Int) ≤ i then some (i + n).toNat else none
def atD {α : Type} (xs : List α) (i : Int) : Option α := match ixD xs.length i with
  | some j => xs[j]?
  | none => none
def sIxD (n d : Nat) : Option Int → Nat
  | none => d
  | some i => if i < 0 then (i + n).toNat else min i.toNat n
def cutD {α : Type} (xs : List α) (lo hi : Option Int) : List α := (xs.drop (sIxD xs.length 0 lo)).take (sIxD xs.length xs.length hi - sIxD xs.length 0 lo)
def index (x y : Rv) (M : Ar) : Option Rv := match y with
  | .d (.int i) => match x with
    | .d (.str cs) => match (if cs.length ≤ line then atD cs i else none) with
      | some c => some ((.d (.str [c])))
      | none => none
    | x => match (asS M x).bind (atD · i) with
      | some d => some ((.d d))
      | none => none
  | _ => none
def slice (x : Rv) (l h : Option Int) (M : Ar) : Option Rv := match x with
  | .d (.str cs) => if cs.length ≤ line then some (.d (.str (cutD cs l h))) else none
  | .d (.tup ds) => some (.d (.tup (cutD ds l h)))
  | x => match asS M x with
    | some ds => some (.l (cutD ds l h))
    | none => none
def intsD : List D → Option (List Int)
  | [] => some []
  | .int i :: ds => match intsD ds with
    | some r => some (i :: r)
    | none => none
  | _ => none
def boolsD : List D → Option (List Bool)
  | [] => some []
  | .bl i :: ds => match boolsD ds with
    | some r => some (i :: r)
    | none => none
  | _ => none
def insI (i : Int) : List Int → List Int
  | [] => [i]
  | j :: js => if i ≤ j then i :: j :: js else j :: insI i js
def sortI : List Int → List Int
  | [] => []
  | i :: is => insI i (sortI is)
def b2i (b : Bool) : Int := if b then 1 else 0
def builtin (b : Blt) (xs : List Rv) (M : Ar) : Option Rv := match b, xs with
  | .len, [.d (.str cs)] => if cs.length ≤ line then some (.d (.int (cs.length : Nat))) else none
  | .len, [x] => (asS M x).map fun ds => .d (.int (ds.length : Nat))
  | .abs, [.d (.int i)] => some ((.d (.int (if i < 0 then -i else i))))
  | .int, [.d (.int i)] => some ((.d (.int i)))
  | .int, [.d (.bl k)] => some ((.d (.int (b2i k))))
  | .max, [.d (.int i), .d (.int j)] => some ((.d (.int (if j > i then j else i))))
  | .min, [.d (.int i), .d (.int j)] => some ((.d (.int (if j < i then j else i))))
  | .gcd, [.d (.int i), .d (.int j)] => some ((.d (.int (Nat.gcd i.natAbs j.natAbs : Nat))))
  | .sum, [x] => ((asL M x).bind intsD).map fun is => .d (.int is.sum)
  | .all, [x] => ((asL M x).bind boolsD).map fun bs => .d (.bl (bs.all id))
  | .any, [x] => ((asL M x).bind boolsD).map fun bs => .d (.bl (bs.any id))
  | .tuple, [x] => (asS M x).map fun ds => .d (.tup ds)
  | .list, [x] => (asS M x).map fun ds => .l ds
  | _, _ => none
def isTy : Rv → Ty → Option Bool
  | .d (.int _), .int => some true
  | .d (.bl _), .int => some true
  | .d (.bl _), .bool => some true
  | .d (.str _), .str => some true
  | .d (.tup _), .tuple => some true
  | .l _, .list => some true
  | .d (.rl _), .list => some true
  | .d (.ref _), _ => none
  | _, _ => some false
def isTyM (M : Ar) (x : Rv) (t : Ty) : Option Bool := match x with
  | .d (.ref n) => match M[n]? with
    | some (.lst _) => some (decide (t = Ty.list))
    | none => none
  | x => isTy x t
def isTys (M : Ar) (x : Rv) : List Ty → Option Bool
  | [] => some false
  | t :: ts => match isTyM M x t with
    | some true => some true
    | some false => isTys M x ts
    | none => none
def method (m : Mth) (x : D) (xs : List D) : Md Rv := fun M => match x with
  | .ref n => match M[n]? with
    | some (.lst ds) => match m, xs with
      | .append, [y] => if ds.length < line then .ok (.d .non) (M.set n (.lst (ds ++ [y]))) else .stuck
      | .pop, [] => match ds.getLast? with
        | some y => .ok (.d y) (M.set n (.lst ds.dropLast))
        | none => .stuck
      | _, _ => .stuck
    | _ => .stuck
  | _ => .stuck
/-- behind a call: what nobody can reach any more is dropped -/
def okOld (n : Nat) : Ar → Ar → Bool
  | [], _ => true
  | o :: os, o' :: os' => (o'.refsLt n || o'.eqb o) && okOld n os os'
  | _ :: _, [] => false
def okRv (n : Nat) : Rv → Bool
  | .d d => d.refsLt n
  | .l ds => D.refsLt_all n ds
def trunc (M : Ar) (x : Out Rv) : Out Rv := match x with
  | .ok r M' => if M.length < M'.length && okRv M.length r && okOld M.length M M' then .ok r (M'.take M.length) else .ok r M'
  | x => x

/-- what a walk draws from: a list (f) or tuple (t) that stays, a list of the arena as it stands -/
inductive Src where
  | st (t : Bool) (ds : List D) | rf (n : Nat)
inductive Itv where
  | st (ds : List D) | one (n : Nat) | zip (a b : Src) | enum (n : Nat)
def lstAt (M : Ar) (n : Nat) : Option (List D) := match M[n]? with
  | some (.lst ds) => some ds
  | none => none
def srcAll (M : Ar) : Src → Option (List D)
  | .st _ ds => some ds
  | .rf n => lstAt M n
def itLen (M : Ar) : Itv → Option Nat
  | .st ds => some ds.length
  | .one n => (lstAt M n).map (·.length)
  | .enum n => (lstAt M n).map (·.length)
  | .zip a b => match srcAll M a, srcAll M b with
    | some x, some y => some (min x.length y.length)
    | _, _ => none
def itNth (M : Ar) (i : Nat) : Itv → Option D
  | .st ds => ds[i]?
  | .one n => (lstAt M n).bind (·[i]?)
  | .enum n => ((lstAt M n).bind (·[i]?)).map fun d => .tup [.int (i : Nat), d]
  | .zip a b => match (srcAll M a).bind (·[i]?), (srcAll M b).bind (·[i]?) with
    | some x, some y => some (.tup [x, y])
    | _, _ => none
inductive Fl where
  | nx (e : Env) | rt (r : Rv) | bk (e : Env) | ct (e : Env)
def enumFrom (k : Nat) : List D → List D
  | [] => []
  | d :: ds => .tup [.int (k : Nat), d] :: enumFrom (k + 1) ds
def rangeL (lo : Int) : Nat → List D
  | 0 => []
  | n + 1 => .int lo :: rangeL (lo + 1) n
def small62 (i : Int) : Bool := -(2 ^ 62) ≤ i && decide (i < 2 ^ 62)
def asIt (x : Rv) (M : Ar) : Option Itv := match x with
  | .l ds => some (.st ds)
  | .d (.tup ds) => some (.st ds)
  | .d (.rl ds) => some (.st ds)
  | .d (.str cs) => if cs.length ≤ line then some (.st (cs.map fun c => .str [c])) else none
  | .d (.ref n) => some (.one n)
  | _ => none
def rangeIt (xs : List Rv) (M : Ar) : Option Itv := match xs with
  | [.d (.int j)] => if small62 j then some ((.st (rangeL 0 j.toNat))) else none
  | [.d (.int i), .d (.int j)] => if small62 i && small62 j then some ((.st (rangeL i (j - i).toNat))) else none
  | _ => none
def zipD : List D → List D → List D
  | x :: xs, y :: ys => .tup [x, y] :: zipD xs ys
  | _, _ => []
def srcOf : Rv → Option Src
  | .l ds => some (.st false ds)
  | .d (.tup ds) => some (.st true ds)
  | .d (.rl ds) => some (.st false ds)
  | .d (.ref n) => some (.rf n)
  | _ => none
def Src.isT : Src → Bool
  | .st t _ => t
  | .rf _ => false
def zipIt (x y : Rv) (M : Ar) : Option Itv := match srcOf x, srcOf y with
  | some a, some b => if a.isT == b.isT then some (match a, b with
    | .st _ a, .st _ b => .st (zipD a b)
    | a, b => .zip a b) else none
  | _, _ => none
def enumIt (x : Rv) (M : Ar) : Option Itv := match x with
  | .l ds => some (.st (enumFrom 0 ds))
  | .d (.rl ds) => some (.st (enumFrom 0 ds))
  | .d (.ref n) => some (.enum n)
  | _ => none
mutual
def tgt : Tg → D → Env → Option Env
  | .nm i, d, env => some (env.set i (some d))
  | .tp gs, .tup ds, env => tgts gs ds env
  | _, _, _ => none
def tgts : Tgs → List D → Env → Option Env
  | .nil, [], env => some env
  | .cons g gs, d :: ds, env => match tgt g d env with
    | some env' => tgts gs ds env'
    | none => none
  | _, _, _ => none
end
def compL (f : D → Md (Option D)) : List D → List D → Md (List D)
  | [], acc => ret acc.reverse
  | x :: xs, acc => bnd (f x) fun
    | some d => if acc.length < line then compL f xs (d :: acc) else stk
    | none => compL f xs acc
def compD (f : D → Md (Option D)) (y : Itv) : Nat → Nat → List D → Md (List D)
  | i, 0, acc => fun M => match itLen M y with
    | some l => if l ≤ i then .ok acc.reverse M else .stuck
    | none => .stuck
  | i, k + 1, acc => fun M => match itNth M i y with
    | some x => bnd (f x) (fun
      | some d => if acc.length < line then compD f y (i + 1) k (d :: acc) else stk
      | none => compD f y (i + 1) k acc) M
    | none => .stuck
def forL (f : D → Env → Md Fl) : List D → Env → Md Fl
  | [], env => ret (.nx env)
  | x :: xs, env => bnd (f x env) fun
    | .nx e => forL f xs e
    | .ct e => forL f xs e
    | .bk e => ret (.nx e)
    | .rt r => ret (.rt r)
def forD (f : D → Env → Md Fl) (y : Itv) : Nat → Nat → Env → Md Fl
  | i, 0, env => fun M => match itLen M y with
    | some l => if l ≤ i then .ok (.nx env) M else .stuck
    | none => .stuck
  | i, k + 1, env => fun M => match itNth M i y with
    | some x => bnd (f x env) (fun
      | .nx e => forD f y (i + 1) k e
      | .ct e => forD f y (i + 1) k e
      | .bk e => ret (.nx e)
      | .rt r => ret (.rt r)) M
    | none => .stuck
/-- an error out of a comprehension is not told -/
def noExc {α : Type} (x : Md α) : Md α := fun M => match x M with
  | .exc _ _ _ => .stuck
  | o => o
def whileF (c : Env → Md Bool) (f : Env → Md Fl) : Nat → Env → Md Fl
  | 0, _ => stk
  | n + 1, env => bnd (c env) fun
    | false => ret (.nx env)
    | true => bnd (f env) fun
      | .nx e => whileF c f n e
      | .ct e => whileF c f n e
      | .bk e => ret (.nx e)
      | .rt r => ret (.rt r)
def isAbs : Tm → Bool
  | .cst .non => true
  | _ => false
def partM (b : Bool) (x : Rv) : Md (Option Int) := if b then ret none else match x with
  | .d (.int i) => ret (some i)
  | _ => stk
def getV (env : Env) (i : Nat) : Md Rv := match env[i]? with
  | some (some d) => ret (.d d)
  | _ => stk
def isRefM (d : D) : Md Unit := match d with
  | .ref _ => ret ()
  | _ => stk
def compAll (f : D → Md (Option D)) : Itv → Md (List D)
  | .st ds => compL f ds []
  | iv => fun M => match itLen M iv with
    | some k => compD f iv 0 k [] M
    | none => .stuck
def forAll_ (f : D → Env → Md Fl) (iv : Itv) (env : Env) : Md Fl := match iv with
  | .st ds => forL f ds env
  | iv => fun M => match itLen M iv with
    | some k => forD f iv 0 k env M
    | none => .stuck
def asB : Rv → Md Bool
  | .d (.bl b) => ret b
  | _ => stk
section
variable (F : Nat → List D → Md Rv) (fuel : Nat)
mutual
def sem : Tm → Env → Md Rv
  | .var i, env => getV env i
  | .cst d, _ => ret (.d d)
  | .neg a, env => bnd (sem a env) fun
    | .d (.int i) => ret (.d (.int (-i)))
    | _ => stk
  | .nt a, env => bnd (bnd (sem a env) asB) fun b => ret (.d (.bl (!b)))
  | .bin o a b, env => bnd (sem a env) fun x => bnd (sem b env) fun y => opt (binop o x y)
  | .cmp o a b, env => bnd (sem a env) fun x => bnd (sem b env) fun y => bnd (opt (cmpop o x y)) fun r => ret (.d (.bl r))
  | .chain o p a b c, env => bnd (sem a env) fun x => bnd (sem b env) fun y => bnd (opt (cmpop o x y)) fun
    | true => bnd (sem c env) fun z => bnd (opt (cmpop p y z)) fun r => ret (.d (.bl r))
    | false => ret (.d (.bl false))
  | .and a b, env => bnd (bnd (sem a env) asB) fun
    | true => bnd (bnd (sem b env) asB) fun r => ret (.d (.bl r))
    | false => ret (.d (.bl false))
  | .or a b, env => bnd (bnd (sem a env) asB) fun
    | true => ret (.d (.bl true))
    | false => bnd (bnd (sem b env) asB) fun r => ret (.d (.bl r))
  | .ite c a b, env => bnd (bnd (sem c env) asB) fun
    | true => sem a env
    | false => sem b env
  | .tup es, env => bnd (semEs es env) fun ds => if ds.length ≤ line then ret (.d (.tup ds)) else stk
  | .lst es, env => bnd (semEs es env) fun ds => if ds.length ≤ line then ret (.l ds) else stk
  | .idx a b, env => bnd (sem a env) fun x => bnd (sem b env) fun y => opt (index x y)
  | .slc a lo hi, env => bnd (sem a env) fun x => bnd (bnd (sem lo env) (partM (isAbs lo))) fun l => bnd (bnd (sem hi env) (partM (isAbs hi))) fun h => opt (slice x l h)
  | .call f es, env => fun M => trunc M (bnd (semEs es env) (fun ds => F f ds) M)
  | .blt b es, env => bnd (semRs es env) fun xs => opt (builtin b xs)
  | .isin a ts, env => bnd (sem a env) fun x => bnd (opt fun M => isTys M x ts) fun b => ret (.d (.bl b))
  | .comp own it g c e, env =>
    bnd (semIt it env) fun iv =>
      let f : D → Md (Option D) := fun d => match tgt g d (wipe env own) with
        | some env' => noExc (bnd (bnd (sem c env') asB) fun
          | true => bnd (bnd (sem e env') settle) fun y => ret (some y)
          | false => ret none)
        | none => stk
      bnd (compAll f iv) fun r => ret (.l r)
  | .meth m a es, env => bnd (bnd (sem a env) settle) fun x => bnd (isRefM x) fun _ => bnd (semEs es env) fun xs => method m x xs
  | .never, _ => stk
def semEs : Es → Env → Md (List D)
  | .nil, _ => ret []
  | .cons e es, env => bnd (bnd (sem e env) settle) fun d => bnd (semEs es env) fun ds => ret (d :: ds)
  | .star e es, env => bnd (sem e env) fun x => bnd (opt fun M => asS M x) fun xs => bnd (semEs es env) fun ds => ret (xs ++ ds)
def semRs : Es → Env → Md (List Rv)
  | .nil, _ => ret []
  | .cons e es, env => bnd (sem e env) fun d => bnd (semRs es env) fun ds => ret (d :: ds)
  | .star _ _, _ => stk
def semIt : Itm → Env → Md Itv
  | .seq a, env => bnd (sem a env) fun x => opt (asIt x)
  | .rng es, env => bnd (semRs es env) fun xs => opt (rangeIt xs)
  | .zip a b, env => bnd (sem a env) fun x => bnd (sem b env) fun y => opt (zipIt x y)
  | .enum a, env => bnd (sem a env) fun x => opt (enumIt x)
end
def semB (t : Tm) (env : Env) : Md Bool := bnd (sem F t env) asB
def semV (t : Tm) (env : Env) : Md D := bnd (sem F t env) settle
def putAt (x y : Rv) (d : D) : Md Unit := fun M => match x, y with
  | .d (.ref n), .d (.int i) => match M[n]? with
    | some (.lst ds) => match ixD ds.length i with
      | some j => .ok () (M.set n (.lst (ds.set j d)))
      | none => .stuck
    | _ => .stuck
  | _, _ => .stuck
def sets : List Nat → List D → Env → Option Env
  | [], [], env => some env
  | j :: js, d :: ds, env => sets js ds (env.set j (some d))
  | _, _, _ => none
mutual
def exec : Stm → Env → Md Fl
  | .asg g e, env => bnd (semV F e env) fun d => match tgt g d env with
    | some env' => ret (.nx env')
    | none => stk
  | .par js es, env => bnd (semEs F es env) fun ds => match sets js ds env with
    | some env' => ret (.nx env')
    | none => stk
  | .put a i e, env => bnd (semV F e env) fun d => bnd (sem F a env) fun x => bnd (sem F i env) fun y => bnd (putAt x y d) fun _ => ret (.nx env)
  | .expr e, env => bnd (sem F e env) fun _ => ret (.nx env)
  | .ret e, env => bnd (sem F e env) fun r => ret (.rt r)
  | .retN, _ => ret (.rt (.d .non))
  | .ite c a b, env => bnd (semB F c env) fun
    | true => execs a env
    | false => execs b env
  | .for_ it g s, env => bnd (semIt F it env) fun iv =>
    let f : D → Env → Md Fl := fun d e => match tgt g d e with
      | some e' => execs s e'
      | none => stk
    forAll_ f iv env
  | .while_ c s, env => whileF (fun e => semB F c e) (fun e => execs s e) fuel env
  | .pass, env => ret (.nx env)
  | .brk, env => ret (.bk env)
  | .cont, env => ret (.ct env)
  | .never, _ => stk
def execs : Stms → Env → Md Fl
  | .nil, env => ret (.nx env)
  | .cons s r, env => bnd (exec s env) fun
    | .nx e => execs r e
    | f => ret f
end
end
/-- a def: how many slots its frame has, its body -/
structure Df where
  ar : Nat
  sl : Nat
  body : Stms
def retF : Fl → Md Rv
  | .nx _ => ret (.d .non)
  | .rt r => ret r
  | _ => stk
def runBody (F : Nat → List D → Md Rv) (fuel : Nat) (d : Df) (args : List D) : Md Rv :=
  if args.length = d.ar then bnd (execs F fuel d.body (args.map some ++ List.replicate (d.sl - args.length) none)) retF else stk
/-- the defs of a text, k calls deep -/
def Phi (fuel : Nat) (T : Nat → Option Df) : Nat → Nat → List D → Md Rv
  | 0, _, _ => stk
  | k + 1, f, args => match T f with
    | some d => runBody (Phi fuel T k) fuel d args
    | none => stk
end Q
end

section
set_option Elab.async false
set_option linter.all false
set_option maxRecDepth 100000
/-! How the interpreter's values stand in the abstract heap. -/
namespace Q
open PySem PySem.Spec PyProof.Rows L2

/-- a list that nobody writes -/
def FzL (K : PySem.W.Frag) (H : Hp) (a : Addr) (xs : List V) : Prop :=
  (∃ o, H a = some (.frz o (.lst xs))) ∨
    ∃ (o : Obj) (its : Array Value) (n : Nat), K.lookup a = some o ∧ o.cls = .type "list" ∧ o.dict = none ∧ o.data = .seq its n ∧ its.size ≤ sizeLine ∧ Vals xs its.toList
theorem FzL.sq {K : PySem.W.Frag} {H : Hp} {a : Addr} {xs : List V} (h : FzL K H a xs) : SqL K H a xs := by
  rcases h with ⟨o, h⟩ | h
  · exact .inl (.inr ⟨o, h⟩)
  · exact .inr h

mutual
inductive Rep (K : PySem.W.Frag) (ι : List Addr) (H : Hp) : V → D → Prop
  | non : Rep K ι H .non .non
  | bl (b : Bool) : Rep K ι H (.bl b) (.bl b)
  | int (i : Int) : Rep K ι H (.int i) (.int i)
  | str (x : List Nat) : Rep K ι H (.str ⟨x.toArray⟩) (.str x)
  | tup {a : Addr} {vs : List V} {ds : List D} : SqT K H a vs → Reps K ι H vs ds → Rep K ι H (.ref a) (.tup ds)
  | rl {a : Addr} {vs : List V} {ds : List D} : FzL K H a vs → Reps K ι H vs ds → Rep K ι H (.ref a) (.rl ds)
  | ref {a : Addr} {n : Nat} : ι[n]? = some a → Rep K ι H (.ref a) (.ref n)
inductive Reps (K : PySem.W.Frag) (ι : List Addr) (H : Hp) : List V → List D → Prop
  | nil : Reps K ι H [] []
  | cons {v : V} {vs : List V} {d : D} {ds : List D} : Rep K ι H v d → Reps K ι H vs ds → Reps K ι H (v :: vs) (d :: ds)
end

/-- what stands at an address of the arena -/
def RepO (K : PySem.W.Frag) (ι : List Addr) (H : Hp) (a : Addr) : Ob → Prop
  | .lst ds => ∃ vs, H a = some (.lst vs) ∧ Reps K ι H vs ds

structure Sim (K : PySem.W.Frag) (ι : List Addr) (H : Hp) (M : Ar) : Prop where
  nd : ι.Nodup
  len : ι.length = M.length
  ob : ∀ (n : Nat) (a : Addr) (o : Ob), ι[n]? = some a → M[n]? = some o → RepO K ι H a o

/-- later -/
structure Ext (K : PySem.W.Frag) (ι : List Addr) (H : Hp) (ι' : List Addr) (H' : Hp) : Prop where
  pre : ∀ (n : Nat) (a : Addr), ι[n]? = some a → ι'[n]? = some a
  tup : ∀ (a : Addr) (xs : List V), SqT K H a xs → SqT K H' a xs
  fz : ∀ (a : Addr) (xs : List V), FzL K H a xs → FzL K H' a xs
  out : ∀ (a : Addr) (o : HO), H a = some o → a ∉ ι → H' a = some o ∧ a ∉ ι'
  there : ∀ (a : Addr), H a ≠ none → H' a ≠ none

section
variable {K : PySem.W.Frag} {ι ι' ι'' : List Addr} {H H' H'' : Hp} {M : Ar}
theorem Ext.refl : Ext K ι H ι H := ⟨fun _ _ h => h, fun _ _ h => h, fun _ _ h => h, fun _ _ h n => ⟨h, n⟩, fun _ h => h⟩
theorem Ext.trans (a : Ext K ι H ι' H') (b : Ext K ι' H' ι'' H'') : Ext K ι H ι'' H'' :=
  ⟨fun n x h => b.pre n x (a.pre n x h), fun x y h => b.tup x y (a.tup x y h), fun x y h => b.fz x y (a.fz x y h),
    fun x o h n => let z := a.out x o h n; b.out x o z.1 z.2, fun x h => b.there x (a.there x h)⟩
mutual
theorem Rep.ext (e : Ext K ι H ι' H') : ∀ {v : V} {d : D}, Rep K ι H v d → Rep K ι' H' v d
  | _, _, .non => .non
  | _, _, .bl b => .bl b
  | _, _, .int i => .int i
  | _, _, .str x => .str x
  | _, _, .tup h r => .tup (e.tup _ _ h) (Reps.ext e r)
  | _, _, .rl h r => .rl (e.fz _ _ h) (Reps.ext e r)
  | _, _, .ref h => .ref (e.pre _ _ h)
theorem Reps.ext (e : Ext K ι H ι' H') : ∀ {vs : List V} {ds : List D}, Reps K ι H vs ds → Reps K ι' H' vs ds
  | _, _, .nil => .nil
  | _, _, .cons h r => .cons (Rep.ext e h) (Reps.ext e r)
end
theorem Reps.length : ∀ {vs : List V} {ds : List D}, Reps K ι H vs ds → vs.length = ds.length
  | _, _, .nil => rfl
  | _, _, .cons _ r => by rw [List.length_cons, List.length_cons, Reps.length r]
theorem Reps.get : ∀ {vs : List V} {ds : List D} {i : Nat} {d : D}, Reps K ι H vs ds → ds[i]? = some d → ∃ v, vs[i]? = some v ∧ Rep K ι H v d
  | _, _, i, d, .nil, h => by simp at h
  | _, _, 0, d, .cons r _, h => by simp at h; subst h; exact ⟨_, rfl, r⟩
  | _, _, i + 1, d, .cons _ r, h => by
    obtain ⟨v, h1, h2⟩ := Reps.get (i := i) r (by simpa using h)
    exact ⟨v, by simpa using h1, h2⟩
theorem Reps.get' : ∀ {vs : List V} {ds : List D} {i : Nat} {v : V}, Reps K ι H vs ds → vs[i]? = some v → ∃ d, ds[i]? = some d ∧ Rep K ι H v d
  | _, _, i, d, .nil, h => by simp at h
  | _, _, 0, d, .cons r _, h => by simp at h; subst h; exact ⟨_, rfl, r⟩
  | _, _, i + 1, d, .cons _ r, h => by
    obtain ⟨v, h1, h2⟩ := Reps.get' (i := i) r (by simpa using h)
    exact ⟨v, by simpa using h1, h2⟩
theorem Reps.append : ∀ {vs ws : List V} {ds es : List D}, Reps K ι H vs ds → Reps K ι H ws es → Reps K ι H (vs ++ ws) (ds ++ es)
  | _, _, _, _, .nil, s => s
  | _, _, _, _, .cons h r, s => .cons h (Reps.append r s)
theorem Reps.take : ∀ {vs : List V} {ds : List D} (n : Nat), Reps K ι H vs ds → Reps K ι H (vs.take n) (ds.take n)
  | _, _, 0, _ => .nil
  | _, _, _ + 1, .nil => .nil
  | _, _, n + 1, .cons h r => .cons h (Reps.take n r)
theorem Reps.drop : ∀ {vs : List V} {ds : List D} (n : Nat), Reps K ι H vs ds → Reps K ι H (vs.drop n) (ds.drop n)
  | _, _, 0, r => r
  | _, _, _ + 1, .nil => .nil
  | _, _, n + 1, .cons _ r => Reps.drop n r
theorem Reps.set {v : V} {d : D} (h : Rep K ι H v d) : ∀ {vs : List V} {ds : List D} (n : Nat), Reps K ι H vs ds → Reps K ι H (vs.set n v) (ds.set n d)
  | _, _, _, .nil => .nil
  | _, _, 0, .cons _ r => .cons h r
  | _, _, n + 1, .cons q r => .cons q (Reps.set h n r)
theorem Reps.rep {vs : List V} {ds : List D} (h : Reps K ι H vs ds) : ∀ k : Nat, Reps K ι H (List.replicate k vs).flatten (List.replicate k ds).flatten
  | 0 => .nil
  | k + 1 => by
    rw [List.replicate_succ, List.replicate_succ, List.flatten_cons, List.flatten_cons]
    exact h.append (Reps.rep h k)
theorem Reps.split : ∀ {vs : List V} {ds es : List D}, Reps K ι H vs (ds ++ es) → ∃ v1 v2, vs = v1 ++ v2 ∧ Reps K ι H v1 ds ∧ Reps K ι H v2 es
  | vs, [], es, h => ⟨[], vs, rfl, .nil, h⟩
  | _, d :: ds, es, .cons h r => by
    obtain ⟨v1, v2, e, a, b⟩ := Reps.split r
    exact ⟨_ :: v1, v2, by rw [e]; rfl, .cons h a, b⟩
theorem Sim.look (S : Sim K ι H M) {n : Nat} {o : Ob} (h : M[n]? = some o) : ∃ a, ι[n]? = some a ∧ RepO K ι H a o := by
  have hn : n < M.length := (List.getElem?_eq_some_iff.mp h).1
  have hi : n < ι.length := by rw [S.len]; exact hn
  exact ⟨ι[n], List.getElem?_eq_getElem hi, S.ob n _ o (List.getElem?_eq_getElem hi) h⟩
theorem RepO.ne {a : Addr} {o : Ob} (h : RepO K ι H a o) : H a ≠ none := by
  cases o with
  | lst ds => obtain ⟨vs, e, _⟩ := h; rw [e]; exact fun z => nomatch z
theorem Sim.ne (S : Sim K ι H M) {a : Addr} (h : a ∈ ι) : H a ≠ none := by
  obtain ⟨n, hn, e⟩ := List.getElem_of_mem h
  have hm : n < M.length := by rw [← S.len]; exact hn
  exact (S.ob n a M[n] (by rw [List.getElem?_eq_getElem hn, e]) (List.getElem?_eq_getElem hm)).ne
theorem SqT.at {K : PySem.W.Frag} {a : Addr} {xs : List V} (h : SqT K H a xs) (hH : H' a = H a ∨ H a = none) : SqT K H' a xs := by
  rcases h with (h | ⟨o, h⟩) | h
  · rcases hH with e | e
    · exact .inl (.inl (e.trans h))
    · rw [e] at h; cases h
  · rcases hH with e | e
    · exact .inl (.inr ⟨o, e.trans h⟩)
    · rw [e] at h; cases h
  · exact .inr h
/-- a new object -/
theorem Ext.new {p : Addr} {o : HO} (hp : H p = none) : Ext K ι H ι (upd H p o) := by
  have ne : ∀ {a u}, H a = some u → a ≠ p := fun h => ne_of_none h hp
  refine ⟨fun _ _ h => h, fun a xs h => ?_, fun a xs h => ?_, fun a u h n => ⟨by rw [upd_ne (ne h)]; exact h, n⟩, fun a h => ?_⟩
  · rcases h with (h | ⟨o, h⟩) | h
    · exact .inl (.inl (by rw [upd_ne (ne h)]; exact h))
    · exact .inl (.inr ⟨o, by rw [upd_ne (ne h)]; exact h⟩)
    · exact .inr h
  · rcases h with ⟨o, h⟩ | h
    · exact .inl ⟨o, by rw [upd_ne (ne h)]; exact h⟩
    · exact .inr h
  · by_cases e : a = p
    · subst e; exact absurd hp h
    · rw [upd_ne e]; exact h
theorem RepO.ext (e : Ext K ι H ι' H') {a : Addr} {o : Ob} (h : RepO K ι H a o) (hH : H' a = H a) : RepO K ι' H' a o := by
  cases o with
  | lst ds => obtain ⟨vs, q, r⟩ := h; exact ⟨vs, hH.trans q, r.ext e⟩
theorem Sim.new {p : Addr} {o : HO} (S : Sim K ι H M) (hp : H p = none) : Sim K ι (upd H p o) M := by
  refine ⟨S.nd, S.len, fun n a u h1 h2 => ?_⟩
  have r := S.ob n a u h1 h2
  refine r.ext (Ext.new hp) (upd_ne fun e => ?_)
  subst e
  exact r.ne hp
/-- an object of the arena is written -/
theorem Ext.write {n : Nat} {a : Addr} {vs ws : List V} (hn : ι[n]? = some a) (h : H a = some (.lst vs)) : Ext K ι H ι (upd H a (.lst ws)) := by
  refine ⟨fun _ _ h => h, fun b xs q => ?_, fun b xs q => ?_, fun b u q m => ⟨?_, m⟩, fun b q => ?_⟩
  · rcases q with (q | ⟨o, q⟩) | q
    · refine .inl (.inl ?_)
      rw [upd_ne fun e => by subst e; rw [h] at q; cases q]; exact q
    · refine .inl (.inr ⟨o, ?_⟩)
      rw [upd_ne fun e => by subst e; rw [h] at q; cases q]; exact q
    · exact .inr q
  · rcases q with ⟨o, q⟩ | q
    · refine .inl ⟨o, ?_⟩
      rw [upd_ne fun e => by subst e; rw [h] at q; cases q]; exact q
    · exact .inr q
  · rw [upd_ne fun e => by subst e; exact m (List.mem_of_getElem? hn)]; exact q
  · by_cases e : b = a
    · subst e; rw [upd_same]; exact fun z => nomatch z
    · rw [upd_ne e]; exact q
theorem nodup_at {α : Type} : ∀ {l : List α} {i j : Nat} {a : α}, l.Nodup → l[i]? = some a → l[j]? = some a → i = j
  | [], i, j, a, _, h, _ => by simp at h
  | x :: l, 0, 0, a, _, _, _ => rfl
  | x :: l, 0, j + 1, a, nd, h1, h2 => by
    simp at h1 h2
    subst h1
    exact absurd (List.mem_of_getElem? h2) (List.nodup_cons.mp nd).1
  | x :: l, i + 1, 0, a, nd, h1, h2 => by
    simp at h1 h2
    subst h2
    exact absurd (List.mem_of_getElem? h1) (List.nodup_cons.mp nd).1
  | x :: l, i + 1, j + 1, a, nd, h1, h2 => by
    exact congrArg (· + 1) (nodup_at (a := a) (List.nodup_cons.mp nd).2 (by simpa using h1) (by simpa using h2))
theorem Sim.write {n : Nat} {a : Addr} {vs ws : List V} {ds : List D} (S : Sim K ι H M) (hn : ι[n]? = some a) (h : H a = some (.lst vs)) (r : Reps K ι (upd H a (.lst ws)) ws ds) : Sim K ι (upd H a (.lst ws)) (M.set n (.lst ds)) := by
  refine ⟨S.nd, by rw [List.length_set]; exact S.len, fun m b u h1 h2 => ?_⟩
  by_cases e : m = n
  · subst e
    rw [hn] at h1; cases h1
    have hm : m < M.length := by rw [← S.len]; exact (List.getElem?_eq_some_iff.mp hn).1
    rw [List.getElem?_set_self hm] at h2
    cases h2
    exact ⟨ws, upd_same, r⟩
  · rw [List.getElem?_set_ne (Ne.symm e)] at h2
    exact (S.ob m b u h1 h2).ext (Ext.write hn h) (upd_ne fun z => by subst z; exact e (nodup_at S.nd h1 hn))
/-- a new list gets its place in the arena -/
theorem Ext.place {ι₀ : List Addr} {H₀ : Hp} {a : Addr} (e : Ext K ι₀ H₀ ι H) (h0 : H₀ a = none) : Ext K ι₀ H₀ (ι ++ [a]) H := by
  refine ⟨fun n b h => ?_, e.tup, e.fz, fun b o h m => ⟨(e.out b o h m).1, fun z => ?_⟩, e.there⟩
  · have := e.pre n b h
    rw [List.getElem?_append_left (List.getElem?_eq_some_iff.mp this).1]; exact this
  · rcases List.mem_append.mp z with z | z
    · exact (e.out b o h m).2 z
    · have : b = a := by simpa using z
      subst this; rw [h0] at h; cases h
theorem Ext.snoc {a : Addr} : ∀ (n : Nat) (b : Addr), ι[n]? = some b → (ι ++ [a])[n]? = some b := fun n b h => by
  rw [List.getElem?_append_left (List.getElem?_eq_some_iff.mp h).1]; exact h
mutual
theorem Rep.places (e : ∀ (n : Nat) (a : Addr), ι[n]? = some a → ι'[n]? = some a) : ∀ {v : V} {d : D}, Rep K ι H v d → Rep K ι' H v d
  | _, _, .non => .non
  | _, _, .bl b => .bl b
  | _, _, .int i => .int i
  | _, _, .str x => .str x
  | _, _, .tup h r => .tup h (Reps.places e r)
  | _, _, .rl h r => .rl h (Reps.places e r)
  | _, _, .ref h => .ref (e _ _ h)
theorem Reps.places (e : ∀ (n : Nat) (a : Addr), ι[n]? = some a → ι'[n]? = some a) : ∀ {vs : List V} {ds : List D}, Reps K ι H vs ds → Reps K ι' H vs ds
  | _, _, .nil => .nil
  | _, _, .cons h r => .cons (Rep.places e h) (Reps.places e r)
end
theorem RepO.places (e : ∀ (n : Nat) (a : Addr), ι[n]? = some a → ι'[n]? = some a) {a : Addr} {o : Ob} (h : RepO K ι H a o) : RepO K ι' H a o := by
  cases o with
  | lst ds => obtain ⟨vs, q, r⟩ := h; exact ⟨vs, q, r.places e⟩
theorem Sim.place {a : Addr} {vs : List V} {ds : List D} (S : Sim K ι H M) (ha : a ∉ ι) (h : H a = some (.lst vs)) (r : Reps K ι H vs ds) : Sim K (ι ++ [a]) H (M ++ [.lst ds]) := by
  refine ⟨?_, by rw [List.length_append, List.length_append, S.len]; rfl, fun n b o h1 h2 => ?_⟩
  · rw [List.nodup_append]
    exact ⟨S.nd, by simp, fun x hx y hy z => by
      have : y = a := by simpa using hy
      subst this; subst z; exact ha hx⟩
  · by_cases hn : n < ι.length
    · rw [List.getElem?_append_left hn] at h1
      rw [List.getElem?_append_left (by rw [← S.len]; exact hn)] at h2
      exact (S.ob n b o h1 h2).places Ext.snoc
    · have hl : n < (ι ++ [a]).length := (List.getElem?_eq_some_iff.mp h1).1
      rw [List.length_append] at hl
      have e : n = ι.length := by simp at hl; omega
      subst e
      rw [List.getElem?_append_right (Nat.le_refl _)] at h1
      rw [List.getElem?_append_right (by rw [S.len]; exact Nat.le_refl _), S.len] at h2
      simp at h1 h2
      subst h1; subst h2
      exact ⟨vs, h, r.places Ext.snoc⟩
theorem Sim.at_ (S : Sim K ι H M) : ι.length = M.length := S.len
/-- what is told of the names -/
def RepSt (K : PySem.W.Frag) (ι : List Addr) (H : Hp) (σ : L2.St) (env : Env) : Prop := ∀ (i : Nat) (d : D), env[i]? = some (some d) → ∃ v, σ[i]? = some (some v) ∧ Rep K ι H v d
theorem RepSt.ext {σ : L2.St} {env : Env} (e : Ext K ι H ι' H') (r : RepSt K ι H σ env) : RepSt K ι' H' σ env := fun i d h => let ⟨v, h1, h2⟩ := r i d h; ⟨v, h1, h2.ext e⟩
end

/-- a result: H₀ the heap at the beginning -/
def RepR (K : PySem.W.Frag) (H₀ : Hp) (ι : List Addr) (H : Hp) (v : V) : Rv → Prop
  | .d d => Rep K ι H v d
  | .l ds => ∃ a vs, v = .ref a ∧ H a = some (.lst vs) ∧ H₀ a = none ∧ a ∉ ι ∧ Reps K ι H vs ds
theorem RepR.ext {K : PySem.W.Frag} {H₀ : Hp} {ι ι' : List Addr} {H H' : Hp} {v : V} {r : Rv} (e : Ext K ι H ι' H') (h : RepR K H₀ ι H v r) : RepR K H₀ ι' H' v r := by
  cases r with
  | d d => exact Rep.ext e h
  | l ds =>
    obtain ⟨a, vs, h1, h2, h3, h4, h5⟩ := h
    exact ⟨a, vs, h1, (e.out a _ h2 h4).1, h3, (e.out a _ h2 h4).2, h5.ext e⟩
theorem RepR.back {K : PySem.W.Frag} {H₀ H₁ : Hp} {ι : List Addr} {H : Hp} {v : V} {r : Rv} (h0 : ∀ a, H₁ a = none → H₀ a = none) (h : RepR K H₁ ι H v r) : RepR K H₀ ι H v r := by
  cases r with
  | d d => exact h
  | l ds =>
    obtain ⟨a, vs, h1, h2, h3, h4, h5⟩ := h
    exact ⟨a, vs, h1, h2, h0 a h3, h4, h5⟩
theorem Ext.noneB {K : PySem.W.Frag} {ι ι' : List Addr} {H H' : Hp} (e : Ext K ι H ι' H') {a : Addr} (h : H' a = none) : H a = none := by
  cases q : H a with
  | none => rfl
  | some o => exact absurd h (e.there a (by rw [q]; exact fun z => nomatch z))
end Q
end

section
set_option Elab.async false
set_option linter.all false
set_option maxRecDepth 100000
set_option maxHeartbeats 4000000
/-! Operators. -/
namespace Q
open PySem PySem.Spec PyProof.Rows L2

theorem line_le : (line : Nat) ≤ sizeLine := by show 1000000 ≤ sizeLine; decide
theorem line_lt : (line : Nat) < sizeLine := by show 1000000 < sizeLine; decide

section
variable {K : PySem.W.Frag} {ι : List Addr} {H H₀ : Hp} {M : Ar}
theorem Rep.str_of {v : V} {x : List Nat} (h : Rep K ι H v (.str x)) : v = .str ⟨x.toArray⟩ := by cases h; rfl
theorem Rep.int_of {v : V} {i : Int} (h : Rep K ι H v (.int i)) : v = .int i := by cases h; rfl
theorem Rep.bl_of {v : V} {i : Bool} (h : Rep K ι H v (.bl i)) : v = .bl i := by cases h; rfl
theorem Rep.non_of {v : V} (h : Rep K ι H v .non) : v = .non := by cases h; rfl
theorem Rep.tup_of {v : V} {ds : List D} (h : Rep K ι H v (.tup ds)) : ∃ a vs, v = .ref a ∧ SqT K H a vs ∧ Reps K ι H vs ds := by cases h; exact ⟨_, _, rfl, by assumption, by assumption⟩
/-- a list that is written -/
theorem asL_of (S : Sim K ι H M) {v : V} {r : Rv} {ds : List D} (rr : RepR K H₀ ι H v r) (h : asL M r = some ds) : ∃ a vs, v = .ref a ∧ H a = some (.lst vs) ∧ Reps K ι H vs ds := by
  cases r with
  | l es =>
    cases h
    obtain ⟨a, vs, e, ha, _, _, q⟩ := rr
    exact ⟨a, vs, e, ha, q⟩
  | d d =>
    cases d with
    | ref n =>
      have h' : (match M[n]? with | some (.lst ds) => some ds | _ => none) = some ds := h
      cases hm : M[n]? with
      | none => rw [hm] at h'; cases h'
      | some o =>
        cases o with
        | lst es =>
          rw [hm] at h'; cases h'
          obtain ⟨a, ha, vs, q1, q2⟩ := S.look hm
          cases (show Rep K ι H v (.ref n) from rr) with
          | ref hr =>
            rw [ha] at hr; cases hr
            exact ⟨a, vs, rfl, q1, q2⟩
    | _ => cases h
/-- a list or a tuple that is read -/
theorem asS_of (S : Sim K ι H M) {v : V} {r : Rv} {ds : List D} (rr : RepR K H₀ ι H v r) (h : asS M r = some ds) : ∃ a vs, v = .ref a ∧ (SqL K H a vs ∨ SqT K H a vs) ∧ Reps K ι H vs ds := by
  cases r with
  | l es =>
    cases h
    obtain ⟨a, vs, e, ha, _, _, q⟩ := rr
    exact ⟨a, vs, e, .inl (SqL.of ha), q⟩
  | d d =>
    cases d with
    | ref n =>
      have h' : (match M[n]? with | some (.lst ds) => some ds | _ => none) = some ds := h
      cases hm : M[n]? with
      | none => rw [hm] at h'; cases h'
      | some o =>
        cases o with
        | lst es =>
          rw [hm] at h'; cases h'
          obtain ⟨a, ha, vs, q1, q2⟩ := S.look hm
          cases (show Rep K ι H v (.ref n) from rr) with
          | ref hr =>
            rw [ha] at hr; cases hr
            exact ⟨a, vs, rfl, .inl (SqL.of q1), q2⟩
    | tup es =>
      cases h
      cases (show Rep K ι H v (.tup ds) from rr) with
      | tup h1 h2 => exact ⟨_, _, rfl, .inr h1, h2⟩
    | rl es =>
      cases h
      cases (show Rep K ι H v (.rl ds) from rr) with
      | rl h1 h2 => exact ⟨_, _, rfl, .inl h1.sq, h2⟩
    | _ => cases h
theorem asS_L (S : Sim K ι H M) {v : V} {r : Rv} {ds : List D} (rr : RepR K H₀ ι H v r) (h : asS M r = some ds) (hn : ∀ es, r ≠ .d (.tup es)) : ∃ a vs, v = .ref a ∧ SqL K H a vs ∧ Reps K ι H vs ds := by
  cases r with
  | l es =>
    cases h
    obtain ⟨a, vs, e, ha, _, _, q⟩ := rr
    exact ⟨a, vs, e, SqL.of ha, q⟩
  | d d =>
    cases d with
    | ref n =>
      have h' : (match M[n]? with | some (.lst ds) => some ds | _ => none) = some ds := h
      cases hm : M[n]? with
      | none => rw [hm] at h'; cases h'
      | some o =>
        cases o with
        | lst es =>
          rw [hm] at h'; cases h'
          obtain ⟨a, ha, vs, q1, q2⟩ := S.look hm
          cases (show Rep K ι H v (.ref n) from rr) with
          | ref hr =>
            rw [ha] at hr; cases hr
            exact ⟨a, vs, rfl, SqL.of q1, q2⟩
    | tup es => exact absurd rfl (hn es)
    | rl es =>
      cases h
      cases (show Rep K ι H v (.rl ds) from rr) with
      | rl h1 h2 => exact ⟨_, _, rfl, h1.sq, h2⟩
    | _ => cases h
end

/-! ### data for == -/
theorem mapM_cons {α β : Type} {f : α → Option β} {x : α} {xs : List α} {ys : List β} (h : (x :: xs).mapM f = some ys) : ∃ y r, f x = some y ∧ xs.mapM f = some r ∧ ys = y :: r := by
  rw [List.mapM_cons] at h
  cases e : f x with
  | none => rw [e] at h; cases h
  | some y =>
    rw [e] at h
    cases e2 : xs.mapM f with
    | none => rw [e2] at h; cases h
    | some r => rw [e2] at h; cases h; exact ⟨y, r, rfl, rfl, rfl⟩
theorem mapM_all {α β : Type} {f : α → Option β} (P : β → Prop) : ∀ {xs : List α} {ys : List β}, xs.mapM f = some ys → (∀ x ∈ xs, ∀ y, f x = some y → P y) → ∀ y ∈ ys, P y
  | [], ys, h, _ => by
    rw [List.mapM_nil] at h
    cases h
    exact fun _ z => nomatch z
  | x :: xs, ys, h, q => by
    obtain ⟨y, r, e1, e2, rfl⟩ := mapM_cons h
    intro z hz
    rcases List.mem_cons.mp hz with rfl | hz
    · exact q x List.mem_cons_self _ e1
    · exact mapM_all P e2 (fun x hx => q x (List.mem_cons_of_mem _ hx)) z hz
theorem canAll {ps : List PyData} (h : ∀ p ∈ ps, p.canLay0 = true) : PyData.canLayAll0 ps = true := by
  induction ps with
  | nil => rfl
  | cons p ps ih =>
    show (p.canLay0 && PyData.canLayAll0 ps) = true
    rw [h p List.mem_cons_self, ih fun q hq => h q (List.mem_cons_of_mem _ hq)]; rfl
theorem depthAll_le {ps : List PyData} {k : Nat} (h : ∀ p ∈ ps, p.depth ≤ k) : PyData.depthAll ps ≤ k := by
  induction ps with
  | nil => exact Nat.zero_le _
  | cons p ps ih =>
    show max p.depth (PyData.depthAll ps) ≤ k
    exact Nat.max_le.mpr ⟨h p List.mem_cons_self, ih fun q hq => h q (List.mem_cons_of_mem _ hq)⟩
theorem toP_ok (M : Ar) : ∀ (k : Nat) (d : D) (p : PyData), toP k M d = some p → p.canLay0 = true ∧ p.depth ≤ k
  | 0, d, p, h => by simp [toP] at h
  | k + 1, d, p, h => by
    have ih := toP_ok M k
    have many : ∀ {ds : List D} {ps : List PyData}, ds.mapM (toP k M) = some ps → PyData.canLayAll0 ps = true ∧ PyData.depthAll ps ≤ k := fun {ds ps} q =>
      ⟨canAll (mapM_all _ q fun x _ y e => (ih x y e).1), depthAll_le (mapM_all _ q fun x _ y e => (ih x y e).2)⟩
    have lst : ∀ {ds : List D}, (ds.mapM (toP k M)).map PyData.list = some p → p.canLay0 = true ∧ p.depth ≤ k + 1 := fun {ds} q => by
      obtain ⟨ps, e, rfl⟩ := Option.map_eq_some_iff.mp q
      obtain ⟨a, b⟩ := many e
      exact ⟨a, Nat.succ_le_succ b⟩
    cases d with
    | non => simp [toP] at h; subst h; exact ⟨rfl, Nat.zero_le _⟩
    | bl b => simp [toP] at h; subst h; exact ⟨rfl, Nat.zero_le _⟩
    | int i => simp [toP] at h; subst h; exact ⟨rfl, Nat.zero_le _⟩
    | str x =>
      simp only [toP] at h
      split at h
      · rename_i hx
        cases h
        refine ⟨?_, Nat.zero_le _⟩
        show PyData.strOk ⟨x.toArray⟩ = true
        unfold PyData.strOk
        rw [List.all_toArray]; exact hx
      · cases h
    | tup ds =>
      simp only [toP] at h
      obtain ⟨ps, e, rfl⟩ := Option.map_eq_some_iff.mp h
      obtain ⟨a, b⟩ := many e
      exact ⟨a, Nat.succ_le_succ b⟩
    | rl ds => simp only [toP] at h; exact lst h
    | ref n =>
      simp only [toP] at h
      cases hm : M[n]? with
      | none => rw [hm] at h; cases h
      | some o =>
        cases o with
        | lst es => rw [hm] at h; exact lst h
section
variable {K : PySem.W.Frag} {ι : List Addr} {H H₀ : Hp} {M : Ar}
theorem toP_dps (f : D → Option PyData) : ∀ {ds : List D} {vs : List V} {ps : List PyData}, (∀ d ∈ ds, ∀ v p, Rep K ι H v d → f d = some p → Dp K H v p) → Reps K ι H vs ds → ds.mapM f = some ps → DpAll K H vs ps
  | [], _, ps, _, .nil, h => by
    rw [List.mapM_nil] at h
    cases h
    exact .nil
  | d :: ds, _, ps, q, .cons r rs, h => by
    obtain ⟨y, r', e1, e2, rfl⟩ := mapM_cons h
    exact .cons (q d List.mem_cons_self _ _ r e1) (toP_dps f (fun d hd => q d (List.mem_cons_of_mem _ hd)) rs e2)
theorem toP_dp (S : Sim K ι H M) : ∀ (k : Nat) (d : D) (v : V) (p : PyData), Rep K ι H v d → toP k M d = some p → Dp K H v p
  | 0, d, v, p, _, h => by simp [toP] at h
  | k + 1, d, v, p, r, h => by
    have ih := toP_dp S k
    cases d with
    | non => simp [toP] at h; subst h; cases r; exact .non
    | bl b => simp [toP] at h; subst h; cases r; exact .bl b
    | int i => simp [toP] at h; subst h; cases r; exact .int i
    | str x =>
      simp only [toP] at h
      split at h
      · cases h; cases r; exact .str _
      · cases h
    | tup ds =>
      simp only [toP] at h
      obtain ⟨ps, e, rfl⟩ := Option.map_eq_some_iff.mp h
      cases r with
      | tup h1 h2 => exact .tup h1 (toP_dps _ (fun d _ v p => ih d v p) h2 e)
    | rl ds =>
      simp only [toP] at h
      obtain ⟨ps, e, rfl⟩ := Option.map_eq_some_iff.mp h
      cases r with
      | rl h1 h2 => exact .lst h1.sq (toP_dps _ (fun d _ v p => ih d v p) h2 e)
    | ref n =>
      simp only [toP] at h
      cases hm : M[n]? with
      | none => rw [hm] at h; cases h
      | some o =>
        cases o with
        | lst es =>
          rw [hm] at h
          obtain ⟨ps, e, rfl⟩ := Option.map_eq_some_iff.mp h
          obtain ⟨a, ha, vs, q1, q2⟩ := S.look hm
          cases r with
          | ref hr =>
            rw [ha] at hr; cases hr
            exact .lst (SqL.of q1) (toP_dps _ (fun d _ v p => ih d v p) q2 e)
theorem toPR_dp (S : Sim K ι H M) {v : V} {r : Rv} {p : PyData} (rr : RepR K H₀ ι H v r) (h : toPR M r = some p) : Dp K H v p := by
  cases r with
  | d d => exact toP_dp S 30 d v p rr h
  | l ds =>
    obtain ⟨ps, e, rfl⟩ := Option.map_eq_some_iff.mp h
    obtain ⟨a, vs, rfl, h1, _, _, q⟩ := rr
    exact .lst (SqL.of h1) (toP_dps _ (fun d _ v p => toP_dp S 29 d v p) q e)
theorem shaped_of {p : PyData} (h : p.canLay0 = true ∧ p.depth ≤ 30) : SeqAt.shaped p = true := by
  unfold SeqAt.shaped
  rw [h.1, decide_eq_true (show p.depth ≤ 64 by omega)]; rfl
theorem toPR_ok {r : Rv} {p : PyData} (h : toPR M r = some p) : p.canLay0 = true ∧ p.depth ≤ 30 := by
  cases r with
  | d d => exact toP_ok M 30 d p h
  | l ds =>
    obtain ⟨ps, e, rfl⟩ := Option.map_eq_some_iff.mp h
    exact ⟨canAll (mapM_all _ e fun x _ y e => (toP_ok M 29 x y e).1), Nat.succ_le_succ (depthAll_le (mapM_all _ e fun x _ y e => (toP_ok M 29 x y e).2))⟩
end

/-! ### two values -/
/-- the reading of an operator f that changes nothing -/
def rOp (K : PySem.W.Frag) (f : Rv → Rv → Ar → Option Rv) : R2 := fun x y H Q => ∃ H₁ H₂ ι M rx ry r, RepR K H₁ ι H x rx ∧ RepR K H₂ ι H y ry ∧ Sim K ι H M ∧ f rx ry M = some r ∧
  ∀ H' v, Ext K ι H ι H' → RepR K H ι H' v r → Sim K ι H' M → Q v H'
section
variable {X : Cx} {pins : List (Addr × Obj)} {s : Shared} {σ : L2.St} {H : Hp}
theorem op_weak {f : Value → Value → Sem Value} {r r' : R2} (h : OpR X f r) (w : ∀ x y H Q, r' x y H Q → r x y H Q) : OpR X f r' := fun pins s σ H x y v u Q I rx ry q => h pins s σ H x y v u Q I rx ry (w x y H Q q)
/-- a new list, a new tuple -/
theorem new_list {K : PySem.W.Frag} {ι : List Addr} {H : Hp} {M : Ar} {Q : VK} {vs : List V} {ds : List D} (S : Sim K ι H M) (r : Reps K ι H vs ds) (q : ∀ H' v, Ext K ι H ι H' → RepR K H ι H' v (.l ds) → Sim K ι H' M → Q v H') :
    ∀ p, H p = none → Q (.ref p) (upd H p (.lst vs)) := fun p hp =>
  q _ _ (Ext.new hp) ⟨p, vs, rfl, upd_same, hp, fun z => S.ne z hp, r.ext (Ext.new hp)⟩ (S.new hp)
theorem new_tup {K : PySem.W.Frag} {ι : List Addr} {H : Hp} {M : Ar} {Q : VK} {vs : List V} {ds : List D} (S : Sim K ι H M) (r : Reps K ι H vs ds) (q : ∀ H' v, Ext K ι H ι H' → RepR K H ι H' v (.d (.tup ds)) → Sim K ι H' M → Q v H') :
    ∀ p, H p = none → Q (.ref p) (upd H p (.tup vs)) := fun p hp =>
  q _ _ (Ext.new hp) (Rep.tup (SqT.of upd_same) (r.ext (Ext.new hp))) (S.new hp)

def bopA : Bop → Operator
  | .add => .Add | .sub => .Sub | .mul => .Mult | .div => .FloorDiv | .mod => .Mod | .pow => .Pow
theorem mulOk_ok {i j : Int} (h : mulOk i j = true) : CMulW i j := by
  have h : bits i + bits j < 900000 := of_decide_eq_true h
  unfold CMulW
  unfold bits at h
  omega
theorem repS {α : Type} {k : Nat} {xs : List α} (h : xs.length * k ≤ line) : xs.length * k ≤ sizeLine := Nat.le_trans h line_le
theorem op_bin (o : Bop) : OpR X (binaryOp (bopA o)) (rOp X.K (binop o)) := by
  intro pins s σ H x y v u Q I rx ry h
  obtain ⟨H₁, H₂, ι, M, dx, dy, r, hx, hy, S, e, q⟩ := h
  have q0 : ∀ {w : V} {d : D}, Rep X.K ι H w d → r = .d d → Q w H := fun {w d} hw er => q H w Ext.refl (by rw [er]; exact hw) S
  -- ints
  have ii : ∀ i j, dx = .d (.int i) → dy = .d (.int j) → wpAny (model X.prog X.w) X.A (binaryOp (bopA o) v u) (EP X pins σ Q) X.xe s := by
    rintro i j rfl rfl
    have ex := Rep.int_of hx
    have ey := Rep.int_of hy
    subst ex ey
    have e' : binInt o i j = some r := e
    unfold binInt at e'
    clear e
    cases o with
    | add => cases e'; exact op_add pins s σ H _ _ v u Q I rx ry ⟨i, j, rfl, rfl, q0 (.int _) rfl⟩
    | sub => cases e'; exact op_sub pins s σ H _ _ v u Q I rx ry ⟨i, j, rfl, rfl, q0 (.int _) rfl⟩
    | mul =>
      simp only [binI] at e'
      by_cases hm : mulOk i j = true
      · rw [if_pos hm] at e'; cases e'
        exact op_mulW pins s σ H _ _ v u Q I rx ry ⟨i, j, rfl, rfl, mulOk_ok hm, q0 (.int _) rfl⟩
      · rw [if_neg hm] at e'; cases e'
    | div =>
      simp only [binI] at e'
      by_cases hm : (decide (0 < j) && decide (bits j < 9000)) = true
      · rw [if_pos hm] at e'; cases e'
        obtain ⟨h1, h2⟩ := Bool.and_eq_true_iff.mp hm
        have h2 : bits j < 9000 := of_decide_eq_true h2
        unfold bits at h2
        exact op_fdivW pins s σ H _ _ v u Q I rx ry ⟨i, j, rfl, rfl, ⟨of_decide_eq_true h1, by omega⟩, q0 (.int _) rfl⟩
      · rw [if_neg hm] at e'; cases e'
    | mod =>
      simp only [binI] at e'
      by_cases hm : j ≠ 0
      · rw [if_pos hm] at e'; cases e'
        exact op_modN pins s σ H _ _ v u Q I rx ry ⟨i, j, rfl, rfl, hm, q0 (.int _) rfl⟩
      · rw [if_neg hm] at e'; cases e'
    | pow =>
      simp only [binI] at e'
      by_cases hm : (decide (0 ≤ j) && decide ((bits i : Int) * j ≤ 1000000)) = true
      · rw [if_pos hm] at e'; cases e'
        obtain ⟨h1, h2⟩ := Bool.and_eq_true_iff.mp hm
        have h1 := of_decide_eq_true h1
        have h2 := of_decide_eq_true h2
        obtain ⟨t, rfl⟩ := (show ∃ t, v = Value.int i t from rx)
        obtain ⟨t', rfl⟩ := (show ∃ t, u = Value.int j t from ry)
        refine PyProof.Rows.pow_int h1 ?_ ⟨.int _, H, I.tok _, ⟨_, rfl⟩, q0 (.int _) rfl⟩
        have hb : (Builtin.Int.intBits i : Int) ≤ (bits i : Int) := by
          unfold Builtin.Int.intBits bits
          split <;> omega
        have : (Builtin.Int.intBits i : Int) * j ≤ (bits i : Int) * j := Int.mul_le_mul_of_nonneg_right hb h1
        omega
      · rw [if_neg hm] at e'; cases e'
  -- lists
  have ll : binLst o dx dy M = some r → wpAny (model X.prog X.w) X.A (binaryOp (bopA o) v u) (EP X pins σ Q) X.xe s := by
    clear e ii
    intro e
    cases o with
    | add =>
      have e : catL M dx dy = some r := e
      unfold catL at e
      cases e1 : asL M dx with
      | none => rw [e1] at e; cases e
      | some a =>
        rw [e1] at e
        cases e2 : asL M dy with
        | none => rw [e2] at e; cases e
        | some b =>
          rw [e2] at e
          simp only at e
          by_cases hl : a.length + b.length ≤ line
          · rw [if_pos hl] at e; cases e
            obtain ⟨p, vs, rfl, hp, rp⟩ := asL_of S hx e1
            obtain ⟨p2, vs2, rfl, hp2, rp2⟩ := asL_of S hy e2
            refine op_cat pins s σ H _ _ v u Q I rx ry ⟨p, p2, vs, vs2, rfl, rfl, hp, hp2, ?_, new_list S (rp.append rp2) q⟩
            rw [rp.length, rp2.length]; exact Nat.le_trans hl line_le
          · rw [if_neg hl] at e; cases e
    | mul =>
      have e : repL M dx dy = some r := e
      unfold repL at e
      cases e1 : asL M dx with
      | none => rw [e1] at e; cases e
      | some a =>
        rw [e1] at e
        cases dy with
        | l _ => cases e
        | d d2 =>
          cases d2 with
          | int k =>
            simp only at e
            by_cases hl : -1000000 < k ∧ k < 1000000 ∧ a.length * k.toNat ≤ line
            · rw [if_pos hl] at e; cases e
              obtain ⟨p, vs, rfl, hp, rp⟩ := asL_of S hx e1
              have ey := Rep.int_of hy
              subst ey
              refine op_rep pins s σ H _ _ v u Q I rx ry ⟨p, k, vs, rfl, rfl, hp, by omega, by omega, ?_, new_list S (rp.rep _) q⟩
              rw [rp.length]; exact repS hl.2.2
            · rw [if_neg hl] at e; cases e
          | _ => cases e
    | _ => cases e
  cases dx with
  | l a => exact ll e
  | d d1 =>
    cases d1 with
    | int i =>
      cases dy with
      | l b => exact ll e
      | d d2 =>
        cases d2 with
        | int j => exact ii i j rfl rfl
        | _ => exact ll e
    | str a =>
      cases dy with
      | l b => exact ll e
      | d d2 =>
        cases d2 with
        | str b =>
          clear ll ii
          have e : binStr o a b = some r := e
          cases o with
          | add =>
            simp only [binStr] at e
            by_cases hl : a.length + b.length ≤ line
            · rw [if_pos hl] at e; cases e
              have ex := Rep.str_of hx
              have ey := Rep.str_of hy
              subst ex ey
              refine op_add_str pins s σ H _ _ v u Q I rx ry ⟨_, _, rfl, rfl, ?_, q0 (d := .str (a ++ b)) ?_ rfl⟩
              · show (a.toArray.size + b.toArray.size : Nat) ≤ sizeLine
                rw [List.size_toArray, List.size_toArray]; exact Nat.le_trans hl line_le
              · have : (Str.append ⟨a.toArray⟩ ⟨b.toArray⟩) = (⟨(a ++ b).toArray⟩ : Str) := by
                  unfold Str.append; simp
                show Rep X.K ι H (.str (Str.append ⟨a.toArray⟩ ⟨b.toArray⟩)) _
                rw [this]; exact .str _
            · rw [if_neg hl] at e; cases e
          | _ => cases e
        | _ => exact ll e
    | tup a =>
      cases dy with
      | l b => exact ll e
      | d d2 =>
        cases d2 with
        | tup b =>
          clear ll ii
          have e : binTup o a b = some r := e
          cases o with
          | add =>
            simp only [binTup] at e
            by_cases hl : a.length + b.length ≤ line
            · rw [if_pos hl] at e; cases e
              obtain ⟨p, vs, rfl, hp, rp⟩ := Rep.tup_of hx
              obtain ⟨p2, vs2, rfl, hp2, rp2⟩ := Rep.tup_of hy
              refine op_catA pins s σ H _ _ v u Q I rx ry ⟨p, p2, vs, vs2, rfl, rfl, hp, hp2, ?_, fun z => ?_, fun z1 z2 => ?_, fun _ _ => new_tup S (rp.append rp2) q⟩
              · rw [rp.length, rp2.length]; exact Nat.le_trans hl line_le
              · subst z
                cases rp
                exact q0 (.tup hp2 rp2) rfl
              · subst z2
                cases rp2
                exact q0 (.tup hp rp) (by rw [List.append_nil])
            · rw [if_neg hl] at e; cases e
          | _ => cases e
        | _ => exact ll e
    | non => exact ll e
    | bl b => exact ll e
    | rl b => exact ll e
    | ref n => exact ll e
end
end Q
end

section
set_option Elab.async false
set_option linter.all false
set_option maxRecDepth 100000
set_option maxHeartbeats 4000000
/-! Comparisons, items, slices. -/
namespace Q
open PySem PySem.Spec PyProof.Rows L2
section
variable {X : Cx}
/-- a comparison's reading -/
def rCp (K : PySem.W.Frag) (f : Rv → Rv → Ar → Option Bool) : R2 := fun x y H Q => ∃ H₁ H₂ ι M rx ry r, RepR K H₁ ι H x rx ∧ RepR K H₂ ι H y ry ∧ Sim K ι H M ∧ f rx ry M = some r ∧ Q (.bl r) H
def copA : Cop → CmpOp
  | .eq => .Eq | .ne => .NotEq | .lt => .Lt | .le => .LtE | .gt => .Gt | .ge => .GtE | .is_ => .Is | .isn => .IsNot | .in_ => .In | .nin => .NotIn
theorem cmpI_of {f : Int → Int → Bool} {rx ry : Rv} {r : Bool} (h : cmpI f rx ry = some r) : ∃ i j, rx = .d (.int i) ∧ ry = .d (.int j) ∧ r = f i j := by
  unfold cmpI at h
  split at h
  · cases h; exact ⟨_, _, rfl, rfl, rfl⟩
  · cases h
theorem isNon_of {K : PySem.W.Frag} {H₁ : Hp} {ι : List Addr} {H : Hp} {v : V} {r : Rv} (h : RepR K H₁ ι H v r) : decide (v = .non) = isNon r := by
  cases r with
  | l ds => obtain ⟨a, vs, rfl, _⟩ := h; rfl
  | d d => cases (show Rep K ι H v d from h) <;> rfl
theorem eq_cases {rx ry : Rv} {M : Ar} {r : Bool} (h : cmpEq rx ry M = some r) : (∃ i j, rx = .d (.int i) ∧ ry = .d (.int j) ∧ r = decide (i = j)) ∨ eqR M rx ry = some r := by
  unfold cmpEq at h
  split at h
  · cases h; exact .inl ⟨_, _, rfl, rfl, rfl⟩
  · exact .inr h
theorem eqR_of {K : PySem.W.Frag} {ι : List Addr} {H H₁ H₂ : Hp} {M : Ar} {x y : V} {rx ry : Rv} {r : Bool} (S : Sim K ι H M) (hx : RepR K H₁ ι H x rx) (hy : RepR K H₂ ι H y ry) (h : eqR M rx ry = some r) :
    ∃ d e, Dp K H x d ∧ Dp K H y e ∧ SeqAt.shaped d = true ∧ SeqAt.shaped e = true ∧ r = PyData.eqv d e := by
  unfold eqR at h
  cases e1 : toPR M rx with
  | none => rw [e1] at h; cases h
  | some a =>
    rw [e1] at h
    cases e2 : toPR M ry with
    | none => rw [e2] at h; cases h
    | some b =>
      rw [e2] at h; cases h
      exact ⟨a, b, toPR_dp S hx e1, toPR_dp S hy e2, shaped_of (toPR_ok e1), shaped_of (toPR_ok e2), rfl⟩
theorem in_run {neg : Bool} (hu : X.A.units + 65 < cLine) {pins : List (Addr × Obj)} {s : Shared} {σ : L2.St} {H : Hp} {x y : V} {v u : Value} {Q : VK} {ι : List Addr} {H₁ H₂ : Hp} {M : Ar} {rx ry : Rv} {r : Bool} (I : Inv X pins σ H s) (r1 : RelV x v) (r2 : RelV y u)
    (S : Sim X.K ι H M) (hx : RepR X.K H₁ ι H x rx) (hy : RepR X.K H₂ ι H y ry) (h : inR M rx ry = some r) (q : Q (.bl (if neg then !r else r)) H) :
    wpAny (model X.prog X.w) X.A (compareOp (if neg then .NotIn else .In) v u) (EP X pins σ Q) X.xe s := by
  unfold inR at h
  cases e1 : toPR M rx with
  | none => rw [e1] at h; cases h
  | some a =>
    rw [e1] at h
    cases e2 : asS M ry with
    | none => rw [e2] at h; cases h
    | some ds =>
      rw [e2] at h
      simp only [Option.bind_some] at h
      cases e3 : ds.mapM (toP 29 M) with
      | none => rw [e3] at h; cases h
      | some ps =>
        rw [e3] at h
        cases h
        obtain ⟨as, ra⟩ := Dp.reads I a x v (toPR_dp S hx e1) r1
        obtain ⟨p, vs, rfl, hs, rp⟩ := asS_of S hy e2
        have da : DpAll X.K H vs ps := toP_dps _ (fun d _ v p => toP_dp S 29 d v p) rp e3
        have cl : PyData.canLayAll0 ps = true := canAll (mapM_all _ e3 fun x _ y e => (toP_ok M 29 x y e).1)
        have room : X.A.units + 1 + min (PyData.depthAll ps) a.depth < cLine := by
          have h1 := (toPR_ok e1).2
          have h2 : min (PyData.depthAll ps) a.depth ≤ a.depth := Nat.min_le_right _ _
          omega
        rcases hs with hs | hs
        · obtain ⟨bs, rb⟩ := Dp.reads I (.list ps) _ u (.lst hs da) r2
          cases neg with
          | false => exact SeqAt.in_list_reads rb ra cl (toPR_ok e1).1 room ⟨.bl _, H, I, rfl, q⟩
          | true => exact SeqAt.notIn_list_reads rb ra cl (toPR_ok e1).1 room ⟨.bl _, H, I, rfl, q⟩
        · obtain ⟨bs, rb⟩ := Dp.reads I (.tuple ps) _ u (.tup hs da) r2
          cases neg with
          | false => exact SeqAt.in_tuple_reads rb ra cl (toPR_ok e1).1 room ⟨.bl _, H, I, rfl, q⟩
          | true => exact SeqAt.notIn_tuple_reads rb ra cl (toPR_ok e1).1 room ⟨.bl _, H, I, rfl, q⟩
theorem cmpIn_of {rx ry : Rv} {M : Ar} {r : Bool} (h : cmpIn rx ry M = some r) : inR M rx ry = some r := by
  unfold cmpIn at h
  split at h
  · cases h
  · exact h
theorem op_cmp (hu : X.A.units + 65 < cLine) (o : Cop) : OpR X (compareOp (copA o)) (rCp X.K (cmpop o)) := by
  intro pins s σ H x y v u Q I rx ry h
  obtain ⟨H₁, H₂, ι, M, dx, dy, r, hx, hy, S, e, q⟩ := h
  cases o with
  | lt =>
    obtain ⟨i, j, rfl, rfl, rfl⟩ := cmpI_of (show cmpI _ dx dy = some r from e)
    exact op_lt pins s σ H x y v u Q I rx ry ⟨i, j, Rep.int_of hx, Rep.int_of hy, q⟩
  | le =>
    obtain ⟨i, j, rfl, rfl, rfl⟩ := cmpI_of (show cmpI _ dx dy = some r from e)
    exact op_le pins s σ H x y v u Q I rx ry ⟨i, j, Rep.int_of hx, Rep.int_of hy, q⟩
  | gt =>
    obtain ⟨i, j, rfl, rfl, rfl⟩ := cmpI_of (show cmpI _ dx dy = some r from e)
    exact op_gt pins s σ H x y v u Q I rx ry ⟨i, j, Rep.int_of hx, Rep.int_of hy, q⟩
  | ge =>
    obtain ⟨i, j, rfl, rfl, rfl⟩ := cmpI_of (show cmpI _ dx dy = some r from e)
    exact op_ge pins s σ H x y v u Q I rx ry ⟨i, j, Rep.int_of hx, Rep.int_of hy, q⟩
  | eq =>
    rcases eq_cases (show cmpEq dx dy M = some r from e) with ⟨i, j, rfl, rfl, rfl⟩ | e
    · refine op_eq pins s σ H x y v u Q I rx ry ⟨by rw [Rep.int_of hx, Rep.int_of hy]; rfl, ?_⟩
      rw [Rep.int_of hx, Rep.int_of hy]
      have : decide (V.int i = V.int j) = decide (i = j) := by rw [dec_int, Bool.beq_eq_decide_eq]
      rw [this]; exact q
    · obtain ⟨d, e', h1, h2, h3, h4, rfl⟩ := eqR_of S hx hy e
      exact op_eqD (by omega) pins s σ H x y v u Q I rx ry ⟨d, e', h1, h2, h3, h4, q⟩
  | ne =>
    obtain ⟨r', e2, rfl⟩ := Option.map_eq_some_iff.mp (show (cmpEq dx dy M).map (!·) = some r from e)
    clear e
    rcases eq_cases e2 with ⟨i, j, rfl, rfl, rfl⟩ | e
    · refine op_ne pins s σ H x y v u Q I rx ry ⟨by rw [Rep.int_of hx, Rep.int_of hy]; rfl, ?_⟩
      rw [Rep.int_of hx, Rep.int_of hy]
      have : decide (V.int i = V.int j) = decide (i = j) := by rw [dec_int, Bool.beq_eq_decide_eq]
      rw [this]; exact q
    · obtain ⟨d, e', h1, h2, h3, h4, rfl⟩ := eqR_of S hx hy e
      exact op_neD (by omega) pins s σ H x y v u Q I rx ry ⟨d, e', h1, h2, h3, h4, q⟩
  | is_ =>
    have e : (if isNon dy then some (isNon dx) else none) = some r := e
    by_cases hn : isNon dy = true
    · rw [if_pos hn] at e; cases e
      rw [← isNon_of hy] at hn
      refine op_isN pins s σ H x y v u Q I rx ry ⟨of_decide_eq_true hn, ?_⟩
      rw [isNon_of hx]; exact q
    · rw [if_neg hn] at e; cases e
  | isn =>
    obtain ⟨r', e2, rfl⟩ := Option.map_eq_some_iff.mp (show (cmpIs dx dy).map (!·) = some r from e)
    clear e
    have e : (if isNon dy then some (isNon dx) else none) = some r' := e2
    by_cases hn : isNon dy = true
    · rw [if_pos hn] at e; cases e
      rw [← isNon_of hy] at hn
      refine op_notN pins s σ H x y v u Q I rx ry ⟨of_decide_eq_true hn, ?_⟩
      rw [isNon_of hx]; exact q
    · rw [if_neg hn] at e; cases e
  | in_ => exact in_run (neg := false) hu I rx ry S hx hy (cmpIn_of e) q
  | nin =>
    obtain ⟨r', e2, rfl⟩ := Option.map_eq_some_iff.mp (show (cmpIn dx dy M).map (!·) = some r from e)
    exact in_run (neg := true) hu I rx ry S hx hy (cmpIn_of e2) q

/-! ### items, slices -/
theorem ixN_same (n : Nat) (i : Int) : L2.ixN n i = ixD n i := rfl
theorem at_same {α : Type} (xs : List α) (i : Int) : L2.atI xs i = atD xs i := by
  unfold L2.atI atD
  rw [ixN_same]
  cases ixD xs.length i <;> rfl
theorem Reps.at_ {K : PySem.W.Frag} {ι : List Addr} {H : Hp} {vs : List V} {ds : List D} {i : Int} {d : D} (r : Reps K ι H vs ds) (h : atD ds i = some d) : ∃ v, L2.atI vs i = some v ∧ Rep K ι H v d := by
  rw [at_same]
  unfold atD at h ⊢
  rw [r.length]
  cases e : ixD ds.length i with
  | none => rw [e] at h; cases h
  | some j => rw [e] at h; exact r.get h
theorem ix_ok : IxR X (rOp X.K index) := by
  intro ev es pins s σ H x y v u Q I rx ry h hplain
  obtain ⟨H₁, H₂, ι, M, dx, dy, r, hx, hy, S, e, q⟩ := h
  have q0 : ∀ {w : V} {d : D}, Rep X.K ι H w d → r = .d d → Q w H := fun {w d} hw er => q H w Ext.refl (by rw [er]; exact hw) S
  unfold index at e
  cases dy with
  | l _ => cases e
  | d dy =>
    cases dy with
    | int i =>
      have ey := Rep.int_of hy
      subst ey
      simp only at e
      have sq : (match (asS M dx).bind (atD · i) with | some d => some (Rv.d d) | none => none) = some r → ∃ o, X.A = X.A ∧ True ∧ ∃ a vs d w, x = .ref a ∧ (SqL X.K H a vs ∨ SqT X.K H a vs) ∧ L2.atI vs i = some w ∧ Rep X.K ι H w d ∧ r = .d d ∧ o = d := by
        intro e
        cases e1 : asS M dx with
        | none => rw [e1] at e; cases e
        | some ds =>
          rw [e1] at e
          have e : (match atD ds i with | some d => some (Rv.d d) | none => none) = some r := e
          cases e2 : atD ds i with
          | none => rw [e2] at e; cases e
          | some d =>
            rw [e2] at e; cases e
            obtain ⟨a, vs, rfl, hs, rp⟩ := asS_of S hx e1
            obtain ⟨w, h1, h2⟩ := rp.at_ e2
            exact ⟨d, rfl, trivial, a, vs, d, w, rfl, hs, h1, h2, rfl, rfl⟩
      have go : (∃ o, X.A = X.A ∧ True ∧ ∃ a vs d w, x = .ref a ∧ (SqL X.K H a vs ∨ SqT X.K H a vs) ∧ L2.atI vs i = some w ∧ Rep X.K ι H w d ∧ r = .d d ∧ o = d) → rIx X.K x (.int i) H Q := by
        rintro ⟨_, _, _, a, vs, d, w, rfl, hs, h1, h2, h3, _⟩
        rcases hs with hs | hs
        · exact .inl ⟨a, vs, i, w, rfl, rfl, hs, h1, q0 h2 h3⟩
        · exact .inr (.inl ⟨a, vs, i, w, rfl, rfl, hs, h1, q0 h2 h3⟩)
      refine ix_seq ev es pins s σ H x (.int i) v u Q I rx ry ?_ hplain
      cases dx with
      | l _ => exact go (sq e)
      | d dx =>
        cases dx with
        | str cs =>
          have e : (match (if cs.length ≤ line then atD cs i else none) with | some c => some (Rv.d (.str [c])) | none => none) = some r := e
          by_cases hl : cs.length ≤ line
          · rw [if_pos hl] at e
            cases e2 : atD cs i with
            | none => rw [e2] at e; cases e
            | some c =>
              rw [e2] at e; cases e
              have ex := Rep.str_of hx
              subst ex
              exact .inr (.inr ⟨_, i, c, rfl, rfl, by show (cs.toArray.size : Nat) ≤ sizeLine; rw [List.size_toArray]; exact Nat.le_trans hl line_le, by rw [at_same]; simpa using e2, q0 (d := .str [c]) (.str [c]) rfl⟩)
          · rw [if_neg hl] at e; cases e
        | _ => exact go (sq e)
    | _ => cases e
theorem sIx_same (n d : Nat) (o : Option Int) : HT.sIx n d o = sIxD n d o := by
  cases o with
  | none => rfl
  | some i => rfl
theorem Reps.cut {K : PySem.W.Frag} {ι : List Addr} {H : Hp} {vs : List V} {ds : List D} (r : Reps K ι H vs ds) (lo hi : Option Int) : Reps K ι H (cutV vs lo hi) (cutD ds lo hi) := by
  unfold cutV cutD
  rw [sIx_same, sIx_same, r.length]
  exact (r.drop _).take _
/-- the reading of a slice -/
def rSl (K : PySem.W.Frag) : V → Option Int → Option Int → Hp → VK → Prop := fun x lo hi H Q => ∃ H₁ ι M rx r, RepR K H₁ ι H x rx ∧ Sim K ι H M ∧ slice rx lo hi M = some r ∧
  ∀ H' v, Ext K ι H ι H' → RepR K H ι H' v r → Sim K ι H' M → Q v H'
theorem sl_ok : SlR X (rSl X.K) := by
  intro pins s σ H x v vl vu lo hi sl Q I rx hs pl pu h
  obtain ⟨H₁, ι, M, dx, r, hx, S, e, q⟩ := h
  have q0 : ∀ {w : V} {d : D}, Rep X.K ι H w d → r = .d d → Q w H := fun {w d} hw er => q H w Ext.refl (by rw [er]; exact hw) S
  have ls : (match asS M dx with | some ds => some (Rv.l (cutD ds lo hi)) | none => none) = some r → (∀ es, dx ≠ .d (.tup es)) → ∃ T id, typeLookup (.type T) "__getitem__" = pure (some (.builtin id)) ∧ s.TypeIs v T ∧ wpAny (model X.prog X.w) X.A (getItem v (.ref sl)) (EP X pins σ Q) X.xe s := by
    intro e hn
    cases e1 : asS M dx with
    | none => rw [e1] at e; cases e
    | some ds =>
      rw [e1] at e; cases e
      obtain ⟨a, vs, rfl, h1, rp⟩ := asS_L S hx e1 hn
      exact sl_list pins s σ H _ v vl vu lo hi sl Q I rx hs pl pu ⟨a, vs, rfl, h1, new_list S (rp.cut lo hi) q⟩
  cases dx with
  | l a => exact ls e fun _ z => nomatch z
  | d dx =>
    cases dx with
    | tup ds =>
      have e : some (Rv.d (.tup (cutD ds lo hi))) = some r := e
      cases e
      obtain ⟨a, vs, rfl, h1, rp⟩ := Rep.tup_of hx
      refine sl_tupA pins s σ H _ v vl vu lo hi sl Q I rx hs pl pu ⟨a, vs, rfl, h1, fun hw => ?_, fun hw => new_tup S (rp.cut lo hi) q⟩
      refine q0 (.tup h1 ?_) rfl
      have : cutV vs lo hi = vs := by
        unfold cutV
        rw [hw.1, hw.2, List.drop_zero, Nat.sub_zero, List.take_length]
      rw [← this]
      exact rp.cut lo hi
    | str cs =>
      have e : (if cs.length ≤ line then some (Rv.d (.str (cutD cs lo hi))) else none) = some r := e
      by_cases hl : cs.length ≤ line
      · rw [if_pos hl] at e; cases e
        have ex := Rep.str_of hx
        subst ex
        refine sl_str pins s σ H _ v vl vu lo hi sl Q I rx hs pl pu ⟨_, rfl, by show (cs.toArray.size : Nat) ≤ sizeLine; rw [List.size_toArray]; exact Nat.le_trans hl line_le, q0 (d := .str (cutD cs lo hi)) ?_ rfl⟩
        have : cutS ⟨cs.toArray⟩ lo hi = ⟨(cutD cs lo hi).toArray⟩ := by
          unfold cutS cutD
          rw [sIx_same, sIx_same]
          show (⟨((cs.toArray.toList.drop (sIxD cs.toArray.size 0 lo)).take _).toArray⟩ : Str) = _
          rw [List.size_toArray]
          rfl
        rw [this]
        exact .str _
      · rw [if_neg hl] at e; cases e
    | non => exact ls e fun _ z => nomatch z
    | bl b => exact ls e fun _ z => nomatch z
    | int b => exact ls e fun _ z => nomatch z
    | rl b => exact ls e fun _ z => nomatch z
    | ref b => exact ls e fun _ z => nomatch z
end
end Q
end

section
set_option Elab.async false
set_option linter.all false
set_option maxRecDepth 100000
set_option maxHeartbeats 4000000
/-! Built-in functions, isinstance, methods, stores. -/
namespace Q
open PySem PySem.Spec PyProof.Rows L2

/-- the arguments of a built-in -/
inductive RepRs (K : PySem.W.Frag) (ι : List Addr) (H : Hp) : List V → List Rv → Prop
  | nil : RepRs K ι H [] []
  | cons {H₁ : Hp} {v : V} {vs : List V} {r : Rv} {rs : List Rv} : RepR K H₁ ι H v r → RepRs K ι H vs rs → RepRs K ι H (v :: vs) (r :: rs)
section
variable {K : PySem.W.Frag} {ι : List Addr} {H : Hp} {M : Ar}
theorem RepRs.one {vs : List V} {r : Rv} (h : RepRs K ι H vs [r]) : ∃ v H₁, vs = [v] ∧ RepR K H₁ ι H v r := by
  cases h with
  | cons h t => cases t; exact ⟨_, _, rfl, h⟩
theorem RepRs.two {vs : List V} {r q : Rv} (h : RepRs K ι H vs [r, q]) : ∃ v w H₁ H₂, vs = [v, w] ∧ RepR K H₁ ι H v r ∧ RepR K H₂ ι H w q := by
  cases h with
  | cons h t =>
    cases t with
    | cons h2 t => cases t; exact ⟨_, _, _, _, rfl, h, h2⟩
theorem Reps.ints_ : ∀ {vs : List V} {ds : List D} {is : List Int}, Reps K ι H vs ds → intsD ds = some is → vs = is.map V.int
  | _, _, is, .nil, h => by cases h; rfl
  | v :: vs, d :: ds, is, .cons r rs, h => by
    cases d with
    | int i =>
      have h : (match intsD ds with | some r => some (i :: r) | none => none) = some is := h
      cases e : intsD ds with
      | none => rw [e] at h; cases h
      | some r' =>
        rw [e] at h; cases h
        rw [Rep.int_of r, Reps.ints_ rs e]; rfl
    | _ => cases h
theorem Reps.bools_ : ∀ {vs : List V} {ds : List D} {is : List Bool}, Reps K ι H vs ds → boolsD ds = some is → vs = is.map V.bl
  | _, _, is, .nil, h => by cases h; rfl
  | v :: vs, d :: ds, is, .cons r rs, h => by
    cases d with
    | bl i =>
      have h : (match boolsD ds with | some r => some (i :: r) | none => none) = some is := h
      cases e : boolsD ds with
      | none => rw [e] at h; cases h
      | some r' =>
        rw [e] at h; cases h
        rw [Rep.bl_of r, Reps.bools_ rs e]; rfl
    | _ => cases h
end
/-- the reading of a built-in -/
def rBi (K : PySem.W.Frag) (b : Blt) : List V → Hp → VK → Prop := fun vs H Q => ∃ ι M rs r, RepRs K ι H vs rs ∧ Sim K ι H M ∧ builtin b rs M = some r ∧
  ∀ H' v, Ext K ι H ι H' → RepR K H ι H' v r → Sim K ι H' M → Q v H'
def bltA : Blt → Value
  | .len => .builtin "len" | .abs => .builtin "abs" | .int => .type "int" | .max => .builtin "max" | .min => .builtin "min" | .sum => .builtin "sum" | .all => .builtin "all" | .any => .builtin "any"
  | .tuple => .type "tuple" | .list => .type "list" | .gcd => .builtin "math.gcd" | .sorted => .builtin "sorted" | .lenset => .none | .str => .type "str"
section
variable {X : Cx}
theorem bind_some {α β : Type} {x : Option α} {f : α → Option β} {y : β} (h : x.bind f = some y) : ∃ a, x = some a ∧ f a = some y := by
  cases x with
  | none => cases h
  | some a => exact ⟨a, rfl, h⟩
theorem call_bi (hc : X.calm = true) (b : Blt) : CallR X (bltA b) (rBi X.K b) := by
  intro pins s σ H xs us Q I rv h
  obtain ⟨ι, M, rs, r, hr, S, e, q⟩ := h
  have q0 : ∀ {w : V} {d : D}, Rep X.K ι H w d → r = .d d → Q w H := fun {w d} hw er => q H w Ext.refl (by rw [er]; exact hw) S
  cases b with
  | len =>
    have sq : ∀ x, rs = [x] → ((asS M x).map fun ds => Rv.d (.int (ds.length : Nat))) = some r → wpAny (model X.prog X.w) X.A (call (bltA .len) us) (EP X pins σ Q) X.xe s := by
      rintro x rfl e
      obtain ⟨ds, e1, rfl⟩ := Option.map_eq_some_iff.mp e
      obtain ⟨v, H₁, rfl, hx⟩ := hr.one
      obtain ⟨a, vs, rfl, hs, rp⟩ := asS_of S hx e1
      exact call_len_seq pins s σ H _ us Q I rv ⟨a, vs, rfl, hs, by rw [rp.length]; exact q0 (.int _) rfl⟩
    match rs, e, hr, sq with
    | [], e, _, _ => cases e
    | x :: y :: zs, e, _, _ =>
      cases x with
      | l _ => cases e
      | d d => cases d <;> cases e
    | [.l a], e, _, sq => exact sq _ rfl e
    | [.d .non], e, _, sq => exact sq _ rfl e
    | [.d (.bl _)], e, _, sq => exact sq _ rfl e
    | [.d (.int _)], e, _, sq => exact sq _ rfl e
    | [.d (.tup _)], e, _, sq => exact sq _ rfl e
    | [.d (.rl _)], e, _, sq => exact sq _ rfl e
    | [.d (.ref _)], e, _, sq => exact sq _ rfl e
    | [.d (.str cs)], e, hr, _ =>
      have e : (if cs.length ≤ line then some (Rv.d (.int (cs.length : Nat))) else none) = some r := e
      by_cases hl : cs.length ≤ line
      · rw [if_pos hl] at e; cases e
        obtain ⟨v, H₁, rfl, hx⟩ := hr.one
        have ex := Rep.str_of hx
        subst ex
        refine call_len_str pins s σ H _ us Q I rv ⟨_, rfl, by show (cs.toArray.size : Nat) ≤ sizeLine; rw [List.size_toArray]; exact Nat.le_trans hl line_le, ?_⟩
        show Q (.int ((cs.toArray.size : Nat) : Int)) H
        rw [List.size_toArray]; exact q0 (.int _) rfl
      · rw [if_neg hl] at e; cases e
  | abs =>
    match rs, e, hr with
    | [.d (.int i)], e, hr =>
      cases e
      obtain ⟨v, H₁, rfl, hx⟩ := hr.one
      have ex := Rep.int_of hx
      subst ex
      exact call_abs pins s σ H _ us Q I rv ⟨i, rfl, q0 (.int _) rfl⟩
  | int =>
    match rs, e, hr with
    | [.d (.int i)], e, hr =>
      cases e
      obtain ⟨v, H₁, rfl, hx⟩ := hr.one
      have ex := Rep.int_of hx
      subst ex
      exact call_int1 pins s σ H _ us Q I rv (.inl ⟨i, rfl, q0 (.int _) rfl⟩)
    | [.d (.bl i)], e, hr =>
      cases e
      obtain ⟨v, H₁, rfl, hx⟩ := hr.one
      have ex := Rep.bl_of hx
      subst ex
      exact call_int1 pins s σ H _ us Q I rv (.inr ⟨i, rfl, q0 (.int _) rfl⟩)
  | max =>
    match rs, e, hr with
    | [.d (.int i), .d (.int j)], e, hr =>
      cases e
      obtain ⟨v, w, H₁, H₂, rfl, hx, hy⟩ := hr.two
      have ex := Rep.int_of hx
      have ey := Rep.int_of hy
      subst ex ey
      exact call_max2 hc pins s σ H _ us Q I rv ⟨i, j, rfl, q0 (.int _) rfl⟩
  | min =>
    match rs, e, hr with
    | [.d (.int i), .d (.int j)], e, hr =>
      cases e
      obtain ⟨v, w, H₁, H₂, rfl, hx, hy⟩ := hr.two
      have ex := Rep.int_of hx
      have ey := Rep.int_of hy
      subst ex ey
      exact call_min2 hc pins s σ H _ us Q I rv ⟨i, j, rfl, q0 (.int _) rfl⟩
  | gcd =>
    match rs, e, hr with
    | [.d (.int i), .d (.int j)], e, hr =>
      cases e
      obtain ⟨v, w, H₁, H₂, rfl, hx, hy⟩ := hr.two
      have ex := Rep.int_of hx
      have ey := Rep.int_of hy
      subst ex ey
      exact cr_gcd pins s σ H _ us Q I rv ⟨i, j, rfl, q0 (.int _) rfl⟩
  | sum =>
    match rs, e, hr with
    | [x], e, hr =>
      obtain ⟨is, e1, rfl⟩ := Option.map_eq_some_iff.mp e
      obtain ⟨ds, e2, e3⟩ := bind_some e1
      obtain ⟨v, H₁, rfl, hx⟩ := hr.one
      obtain ⟨a, vs, rfl, hs, rp⟩ := asL_of S hx e2
      have ev := rp.ints_ e3
      subst ev
      exact cr_sum hc pins s σ H _ us Q I rv ⟨a, is, rfl, SqL.of hs, q0 (.int _) rfl⟩
  | all =>
    match rs, e, hr with
    | [x], e, hr =>
      obtain ⟨is, e1, rfl⟩ := Option.map_eq_some_iff.mp e
      obtain ⟨ds, e2, e3⟩ := bind_some e1
      obtain ⟨v, H₁, rfl, hx⟩ := hr.one
      obtain ⟨a, vs, rfl, hs, rp⟩ := asL_of S hx e2
      have ev := rp.bools_ e3
      subst ev
      exact cr_all hc pins s σ H _ us Q I rv ⟨a, is, rfl, SqL.of hs, q0 (.bl _) rfl⟩
  | any =>
    match rs, e, hr with
    | [x], e, hr =>
      obtain ⟨is, e1, rfl⟩ := Option.map_eq_some_iff.mp e
      obtain ⟨ds, e2, e3⟩ := bind_some e1
      obtain ⟨v, H₁, rfl, hx⟩ := hr.one
      obtain ⟨a, vs, rfl, hs, rp⟩ := asL_of S hx e2
      have ev := rp.bools_ e3
      subst ev
      exact cr_any hc pins s σ H _ us Q I rv ⟨a, is, rfl, SqL.of hs, q0 (.bl _) rfl⟩
  | tuple =>
    match rs, e, hr with
    | [x], e, hr =>
      obtain ⟨ds, e1, rfl⟩ := Option.map_eq_some_iff.mp e
      obtain ⟨v, H₁, rfl, hx⟩ := hr.one
      obtain ⟨a, vs, rfl, hs, rp⟩ := asS_of S hx e1
      rcases hs with hs | hs
      · exact call_tuple_of pins s σ H _ us Q I rv ⟨a, vs, rfl, .inl ⟨hs, new_tup S rp q⟩⟩
      · exact call_tuple_of pins s σ H _ us Q I rv ⟨a, vs, rfl, .inr ⟨hs, q0 (.tup hs rp) rfl⟩⟩
  | list =>
    match rs, e, hr with
    | [x], e, hr =>
      obtain ⟨ds, e1, rfl⟩ := Option.map_eq_some_iff.mp e
      obtain ⟨v, H₁, rfl, hx⟩ := hr.one
      obtain ⟨a, vs, rfl, hs, rp⟩ := asS_of S hx e1
      exact call_list_of pins s σ H _ us Q I rv ⟨a, vs, rfl, hs, new_list S rp q⟩
  | sorted => cases e
  | lenset => cases e
  | str => cases e

/-! ### isinstance -/
def tyA : Ty → String
  | .int => "int" | .bool => "bool" | .str => "str" | .tuple => "tuple" | .list => "list" | .dict => "dict"
/-- the type's name of a value -/
def nameR (M : Ar) : Rv → Option String
  | .l _ => some "list"
  | .d .non => some "NoneType"
  | .d (.bl _) => some "bool"
  | .d (.int _) => some "int"
  | .d (.str _) => some "str"
  | .d (.tup _) => some "tuple"
  | .d (.rl _) => some "list"
  | .d (.ref n) => match M[n]? with
    | some (.lst _) => some "list"
    | none => none
theorem isTy_kit {M : Ar} {x : Rv} {t : Ty} {b : Bool} {n : String} (hn : nameR M x = some n) (h : isTyM M x t = some b) : kitB n (tyA t) = some b := by
  let L : List (String × Ty × Bool) := [("list", Ty.int, false), ("list", .bool, false), ("list", .str, false), ("list", .tuple, false), ("list", .list, true), ("list", .dict, false),
    ("NoneType", .int, false), ("NoneType", .bool, false), ("NoneType", .str, false), ("NoneType", .tuple, false), ("NoneType", .list, false), ("NoneType", .dict, false),
    ("bool", .int, true), ("bool", .bool, true), ("bool", .str, false), ("bool", .tuple, false), ("bool", .list, false), ("bool", .dict, false),
    ("int", .int, true), ("int", .bool, false), ("int", .str, false), ("int", .tuple, false), ("int", .list, false), ("int", .dict, false),
    ("str", .int, false), ("str", .bool, false), ("str", .str, true), ("str", .tuple, false), ("str", .list, false), ("str", .dict, false),
    ("tuple", .int, false), ("tuple", .bool, false), ("tuple", .str, false), ("tuple", .tuple, true), ("tuple", .list, false), ("tuple", .dict, false)]
  have all : (L.all fun p => decide (kitB p.1 (tyA p.2.1) = some p.2.2)) = true := by decide +kernel
  have key : ∀ n t b, (n, t, b) ∈ L → kitB n (tyA t) = some b := fun n t b h => of_decide_eq_true (List.all_eq_true.mp all (n, t, b) h)
  apply key
  cases x with
  | l _ => cases hn; cases t <;> cases h <;> decide
  | d d =>
    cases d with
    | ref k =>
      have hn : (match M[k]? with | some (.lst _) => some "list" | none => none) = some n := hn
      have h : (match M[k]? with | some (.lst _) => some (decide (t = Ty.list)) | none => none) = some b := h
      cases e : M[k]? with
      | none => rw [e] at hn; cases hn
      | some o =>
        cases o
        rw [e] at hn h
        cases hn
        cases h
        cases t <;> decide
    | _ => cases hn; cases t <;> cases h <;> decide
theorem tyX_of {K : PySem.W.Frag} {ι : List Addr} {H H₁ : Hp} {M : Ar} (S : Sim K ι H M) {v : V} {x : Rv} {n : String} (hx : RepR K H₁ ι H v x) (hn : nameR M x = some n) : TyX K H v (.type n) := by
  have tl : ∀ {a vs}, SqL K H a vs → TyX K H (.ref a) (.type "list") := fun {a vs} h => by
    rcases h with (h | ⟨o, h⟩) | ⟨o, its, k, h, hc, _⟩
    · exact .base (.lst h)
    · exact .base (.frz h)
    · exact .kList h hc
  have tt : ∀ {a vs}, SqT K H a vs → TyX K H (.ref a) (.type "tuple") := fun {a vs} h => by
    rcases h with (h | ⟨o, h⟩) | ⟨o, its, k, h, hc, _⟩
    · exact .base (.tup h)
    · exact .fTuple h
    · exact .kTuple h hc
  cases x with
  | l _ => cases hn; obtain ⟨a, vs, rfl, h, _⟩ := hx; exact tl (SqL.of h)
  | d d =>
    cases d with
    | ref k =>
      have hn : (match M[k]? with | some (.lst _) => some "list" | none => none) = some n := hn
      cases e : M[k]? with
      | none => rw [e] at hn; cases hn
      | some o =>
        cases o
        rw [e] at hn; cases hn
        obtain ⟨a, ha, vs, h, _⟩ := S.look e
        cases (show Rep K ι H v (.ref k) from hx) with
        | ref hr => rw [ha] at hr; cases hr; exact tl (SqL.of h)
    | non => cases hn; cases (show Rep K ι H v .non from hx); exact .base .non
    | bl b => cases hn; cases (show Rep K ι H v (.bl b) from hx); exact .base (.bl _)
    | int b => cases hn; cases (show Rep K ι H v (.int b) from hx); exact .base (.int _)
    | str b => cases hn; cases (show Rep K ι H v (.str b) from hx); exact .base (.str _)
    | tup b =>
      cases hn
      cases (show Rep K ι H v (.tup b) from hx) with
      | tup h _ => exact tt h
    | rl b =>
      cases hn
      cases (show Rep K ι H v (.rl b) from hx) with
      | rl h _ => exact tl h.sq
end
end Q
end

section
set_option Elab.async false
set_option linter.all false
set_option maxRecDepth 100000
set_option maxHeartbeats 4000000
namespace Q
open PySem PySem.Spec PyProof.Rows L2
section
variable {X : Cx}
/-- o.m(..), the arena changed -/
def mthA : Mth → String
  | .append => "list.append" | .pop => "list.pop" | .extend => "list.extend"
def rMt (K : PySem.W.Frag) (m : Mth) : V → List V → Hp → VK → Prop := fun x vs H Q => ∃ ι M d ds r M', Rep K ι H x d ∧ Reps K ι H vs ds ∧ Sim K ι H M ∧ method m d ds M = .ok r M' ∧
  ∀ H' v, Ext K ι H ι H' → RepR K H ι H' v r → Sim K ι H' M' → Q v H'
theorem mt_ok (m : Mth) : MtR X (mthA m) (rMt X.K m) := by
  intro pins s σ H x xs v us Q I rx rxs h
  obtain ⟨ι, M, d, ds, r, M', hx, hr, S, e, q⟩ := h
  unfold method at e
  cases d with
  | ref n =>
    simp only at e
    cases em : M[n]? with
    | none => rw [em] at e; cases e
    | some o =>
      cases o with
      | lst es =>
        rw [em] at e
        obtain ⟨a, ha, vs, h1, h2⟩ := S.look em
        cases hx with
        | ref hn =>
          rw [ha] at hn; cases hn
          cases m with
          | append =>
            match ds, e, hr with
            | [y], e, hr =>
              simp only at e
              by_cases hl : es.length < line
              · rw [if_pos hl] at e; cases e
                cases hr with
                | @cons hv hvs hd hds hy t =>
                  cases t
                  refine mt_append pins s σ H _ _ v us Q I rx rxs ⟨a, vs, _, rfl, rfl, h1, by rw [h2.length]; exact Nat.lt_trans hl line_lt, ?_⟩
                  have ex : Ext X.K ι H ι (upd H a (.lst (vs ++ [hv]))) := Ext.write ha h1
                  exact q _ _ ex .non (S.write ha h1 ((h2.append (.cons hy .nil)).ext ex))
              · rw [if_neg hl] at e; cases e
            | [], e, _ => cases e
            | _ :: _ :: _, e, _ => cases e
          | pop =>
            match ds, e, hr with
            | [], e, hr =>
              simp only at e
              cases hr
              cases eg : es.getLast? with
              | none => rw [eg] at e; cases e
              | some y =>
                rw [eg] at e; cases e
                have hg : es[es.length - 1]? = some y := by rw [← List.getLast?_eq_getElem?]; exact eg
                obtain ⟨w, g1, g2⟩ := h2.get hg
                refine mt_pop pins s σ H _ _ v us Q I rx rxs ⟨a, vs, w, rfl, rfl, h1, by rw [h2.length]; exact g1, ?_⟩
                have ex : Ext X.K ι H ι (upd H a (.lst vs.dropLast)) := Ext.write ha h1
                refine q _ _ ex (Rep.ext ex g2) (S.write ha h1 ?_)
                have : Reps X.K ι H vs.dropLast es.dropLast := by
                  rw [List.dropLast_eq_take, List.dropLast_eq_take, h2.length]
                  exact h2.take _
                exact this.ext ex
            | _ :: _, e, _ => cases e
          | extend => cases e
  | _ => cases e
/-- o[i] = v -/
def rPut (K : PySem.W.Frag) : TSet := fun x y z H Q => ∃ ι H₁ H₂ M rx ry d M', RepR K H₁ ι H x rx ∧ RepR K H₂ ι H y ry ∧ Rep K ι H z d ∧ Sim K ι H M ∧ putAt rx ry d M = .ok () M' ∧
  ∀ H', Ext K ι H ι H' → Sim K ι H' M' → Q H'
theorem put_ok : PSet X (rPut X.K) := by
  intro pins s σ H o i v ov iv u Q I r1 r2 r3 h
  obtain ⟨ι, H₁, H₂, M, rx, ry, d, M', hx, hy, hz, S, e, q⟩ := h
  unfold putAt at e
  cases rx with
  | l _ => cases e
  | d dx =>
    cases dx with
    | ref n =>
      cases ry with
      | l _ => cases e
      | d dy =>
        cases dy with
        | int k =>
          simp only at e
          cases em : M[n]? with
          | none => rw [em] at e; cases e
          | some ob =>
            cases ob with
            | lst es =>
              rw [em] at e
              simp only at e
              cases ek : ixD es.length k with
              | none => rw [ek] at e; cases e
              | some j =>
                rw [ek] at e; cases e
                obtain ⟨a, ha, vs, h1, h2⟩ := S.look em
                cases (show Rep X.K ι H o (.ref n) from hx) with
                | ref hn =>
                  rw [ha] at hn; cases hn
                  have ey := Rep.int_of hy
                  subst ey
                  refine set_list pins s σ H _ _ v ov iv u Q I r1 r2 r3 ⟨a, vs, k, j, rfl, rfl, h1, by rw [h2.length]; exact ek, ?_⟩
                  have ex : Ext X.K ι H ι (upd H a (.lst (vs.set j v))) := Ext.write ha h1
                  exact q _ ex (S.write ha h1 ((h2.set hz j).ext ex))
        | _ => cases e
    | _ => cases e
end
end Q
end

section
set_option Elab.async false
set_option linter.all false
set_option maxRecDepth 100000
set_option maxHeartbeats 4000000
/-! Readings of terms. -/
namespace Q
open PySem PySem.Spec PyProof.Rows L2

/-- what is told of the text: names of constants with their values, defs by their numbers, free names, how errors lie -/
structure GX where
  consts : List (Str × D)
  fns : List (Str × Nat × Nat)
  free : List Str
  ea : PySem.W.Frag → List Addr → Hp → Nat → D → Value → Option Addr → Prop

def XW (G : GX) (K : PySem.W.Frag) (W : WX) (σ : L2.St) (ι : List Addr) (H : Hp) (c : Nat) (p : D) (M' : Ar) : Prop := ∀ ι' cls oe H', Ext K ι H ι' H' → Sim K ι' H' M' → G.ea K ι' H' c p cls oe → W cls oe σ H'
def GoX {α : Type} (G : GX) (K : PySem.W.Frag) (W : WX) (σ : L2.St) (ι : List Addr) (H : Hp) (x : Out α) (R : α → Ar → Prop) : Prop := match x with
  | .ok a M' => R a M'
  | .exc c p M' => XW G K W σ ι H c p M'
  | .stuck => False
section
variable {α β : Type} {G : GX} {K : PySem.W.Frag} {W : WX} {σ : L2.St} {ι ι' : List Addr} {H H' : Hp} {M : Ar}
theorem GoX.bnd {x : Md α} {k : α → Md β} {R : β → Ar → Prop} (h : GoX G K W σ ι H (bnd x k M) R) : GoX G K W σ ι H (x M) fun a M1 => GoX G K W σ ι H (k a M1) R := by
  unfold Q.bnd at h
  cases e : x M with
  | ok a M1 => rw [e] at h; exact h
  | exc c p M1 => rw [e] at h; exact h
  | stuck => rw [e] at h; exact h
theorem GoX.mono {x : Out α} {R R' : α → Ar → Prop} (h : GoX G K W σ ι H x R) (f : ∀ a M, R a M → R' a M) : GoX G K W σ ι H x R' := by
  cases x with
  | ok a M => exact f a M h
  | exc c p M => exact h
  | stuck => exact h
theorem GoX.later {x : Out α} {R : α → Ar → Prop} (h : GoX G K W σ ι H x R) (e : Ext K ι H ι' H') : GoX G K W σ ι' H' x R := by
  cases x with
  | ok a M => exact h
  | exc c p M => exact fun ι'' cls oe H'' e' => h ι'' cls oe H'' (e.trans e')
  | stuck => exact h
theorem GoX.opt {f : Ar → Option α} {R : α → Ar → Prop} (h : GoX G K W σ ι H (opt f M) R) : ∃ a, f M = some a ∧ R a M := by
  unfold Q.opt at h
  cases e : f M with
  | none => rw [e] at h; exact False.elim h
  | some a => rw [e] at h; exact ⟨a, rfl, h⟩
theorem GoX.ret {a : α} {R : α → Ar → Prop} (h : GoX G K W σ ι H (ret a M) R) : R a M := h
theorem GoX.stk {R : α → Ar → Prop} (h : GoX G K W σ ι H (stk M) R) : False := h
end

/-- what comes behind a value -/
def FinE (K : PySem.W.Frag) (ι : List Addr) (H : Hp) (Q : VK) : Rv → Ar → Prop := fun r M' => ∀ ι' v H', Ext K ι H ι' H' → RepR K H ι' H' v r → Sim K ι' H' M' → Q v H'
def FinB (K : PySem.W.Frag) (ι : List Addr) (H : Hp) (Q : Bool → Hp → Prop) : Bool → Ar → Prop := fun b M' => ∀ ι' H', Ext K ι H ι' H' → Sim K ι' H' M' → Q b H'
def FinA (K : PySem.W.Frag) (ι : List Addr) (H : Hp) (Q : List V → Hp → Prop) : List D → Ar → Prop := fun ds M' => ∀ ι' vs H', Ext K ι H ι' H' → Reps K ι' H' vs ds → Sim K ι' H' M' → Q vs H'
def FinR (K : PySem.W.Frag) (ι : List Addr) (H : Hp) (Q : List V → Hp → Prop) : List Rv → Ar → Prop := fun rs M' => ∀ ι' vs H', Ext K ι H ι' H' → RepRs K ι' H' vs rs → Sim K ι' H' M' → Q vs H'
def liftE (G : GX) (K : PySem.W.Frag) (W : WX) (f : Env → Md Rv) : TE := fun σ H Q => ∃ ι env M, RepSt K ι H σ env ∧ Sim K ι H M ∧ GoX G K W σ ι H (f env M) (FinE K ι H Q)
def liftB (G : GX) (K : PySem.W.Frag) (W : WX) (f : Env → Md Bool) : TT := fun σ H Q => ∃ ι env M, RepSt K ι H σ env ∧ Sim K ι H M ∧ GoX G K W σ ι H (f env M) (FinB K ι H Q)
def liftA (G : GX) (K : PySem.W.Frag) (W : WX) (f : Env → Md (List D)) : TA := fun σ H Q => ∃ ι env M, RepSt K ι H σ env ∧ Sim K ι H M ∧ GoX G K W σ ι H (f env M) (FinA K ι H Q)
def liftR (G : GX) (K : PySem.W.Frag) (W : WX) (f : Env → Md (List Rv)) : TA := fun σ H Q => ∃ ι env M, RepSt K ι H σ env ∧ Sim K ι H M ∧ GoX G K W σ ι H (f env M) (FinR K ι H Q)

theorem _root_.L2.PE.weak {X : Cx} {e : Expr} {t t' : TE} (h : PE X e t) (w : ∀ σ H Q, t' σ H Q → t σ H Q) : PE X e t' := ⟨fun pins s σ H Q I q => h.run pins s σ H Q I (w σ H Q q)⟩
theorem _root_.L2.PT.weak {X : Cx} {e : Expr} {t t' : TT} (h : PT X e t) (w : ∀ σ H Q, t' σ H Q → t σ H Q) : PT X e t' := ⟨fun pins s σ H Q I q => h.run pins s σ H Q I (w σ H Q q)⟩
theorem _root_.L2.PW.weak {X : Cx} {e : Expr} {t t' : TT} (h : PW X e t) (w : ∀ σ H Q, t' σ H Q → t σ H Q) : PW X e t' := ⟨fun wh pins s σ H Q I q => h.run wh pins s σ H Q I (w σ H Q q)⟩
theorem _root_.L2.PA.weak {X : Cx} {e : List Expr} {t t' : TA} (h : PA X e t) (w : ∀ σ H Q, t' σ H Q → t σ H Q) : PA X e t' := ⟨fun pos pins s σ H Q I q => h.run pos pins s σ H Q I (w σ H Q q)⟩
theorem _root_.L2.PS.weak {X : Cx} {e : Stmt} {t t' : TS} (h : PS X e t) (w : ∀ D σ H, t' D σ H → t D σ H) : PS X e t' := ⟨fun pins s σ H D I q => h.run pins s σ H D I (w D σ H q)⟩
theorem _root_.L2.PSs.weak {X : Cx} {e : List Stmt} {t t' : TS} (h : PSs X e t) (w : ∀ D σ H, t' D σ H → t D σ H) : PSs X e t' := ⟨fun pins s σ H D I q => h.run pins s σ H D I (w D σ H q)⟩

section
variable {G : GX} {X : Cx} {W : WX} {a b c : Expr} {f g k : Env → Md Rv} {pos : Pos}
abbrev DE (G : GX) (X : Cx) (W : WX) (e : Expr) (f : Env → Md Rv) : Prop := PE X e (liftE G X.K W f)
abbrev DT (G : GX) (X : Cx) (W : WX) (e : Expr) (f : Env → Md Bool) : Prop := PT X e (liftB G X.K W f)
abbrev DW (G : GX) (X : Cx) (W : WX) (e : Expr) (f : Env → Md Bool) : Prop := PW X e (liftB G X.K W f)

theorem FinE.go {K : PySem.W.Frag} {ι ι1 ι' : List Addr} {H H1 H' : Hp} {Q : VK} {r : Rv} {M' : Ar} {v : V} (h : FinE K ι H Q r M') (e1 : Ext K ι H ι1 H1) (e2 : Ext K ι1 H1 ι' H') (rr : RepR K H1 ι' H' v r) (S : Sim K ι' H' M') : Q v H' :=
  h ι' v H' (e1.trans e2) (rr.back fun _ z => e1.noneB z) S

theorem de_var {i : Nat} {x : Str} (h : PE X (.Name x pos) (tVar i)) : DE G X W (.Name x pos) fun env => getV env i := h.weak fun σ H Q ⟨ι, env, M, rs, S, go⟩ => by
  have go : GoX G X.K W σ ι H (getV env i M) (FinE X.K ι H Q) := go
  unfold getV at go
  cases e : env[i]? with
  | none => rw [e] at go; exact False.elim go
  | some o =>
    cases o with
    | none => rw [e] at go; exact False.elim go
    | some d =>
      rw [e] at go
      obtain ⟨v, h1, h2⟩ := rs i d e
      exact ⟨v, h1, go ι v H Ext.refl h2 S⟩
theorem de_cst {e : Expr} {d : D} {v : V} (h : PE X e (tC v)) (r : ∀ ι H, Rep X.K ι H v d) : DE G X W e fun _ => ret (.d d) := h.weak fun σ H Q ⟨ι, env, M, rs, S, go⟩ => go ι v H Ext.refl (r ι H) S
theorem de_never {e : Expr} : DE G X W e fun _ => stk := ⟨fun pins s σ H Q I ⟨_, _, _, _, _, go⟩ => False.elim go⟩
theorem de_bin (o : Bop) (ha : DE G X W a f) (hb : DE G X W b g) : DE G X W (.BinOp a (bopA o) b pos) fun env => bnd (f env) fun x => bnd (g env) fun y => opt (binop o x y) :=
  (pe_op (op_bin o) ha hb).weak fun σ H Q ⟨ι, env, M, rs, S, go⟩ =>
    ⟨ι, env, M, rs, S, go.bnd.mono fun r1 M1 h1 ι1 v1 H1 e1 rr1 S1 => ⟨ι1, env, M1, rs.ext e1, S1, (h1.bnd.later e1).mono fun r2 M2 h2 ι2 v2 H2 e2 rr2 S2 => by
      obtain ⟨r, e, q⟩ := h2.opt
      exact ⟨H, H1, ι2, M2, r1, r2, r, rr1.ext e2, rr2, S2, e, fun H' v e3 rr3 S3 => FinE.go q (e1.trans e2) e3 rr3 S3⟩⟩⟩
theorem cmp_weak {o : Cop} {σ : L2.St} {H : Hp} {Q : VK} (h : liftE G X.K W (fun env => bnd (f env) fun x => bnd (g env) fun y => bnd (opt (cmpop o x y)) fun r => ret (.d (.bl r))) σ H Q) :
    tOp (rCp X.K (cmpop o)) (liftE G X.K W f) (liftE G X.K W g) σ H Q := by
  obtain ⟨ι, env, M, rs, S, go⟩ := h
  exact ⟨ι, env, M, rs, S, go.bnd.mono fun r1 M1 h1 ι1 v1 H1 e1 rr1 S1 => ⟨ι1, env, M1, rs.ext e1, S1, (h1.bnd.later e1).mono fun r2 M2 h2 ι2 v2 H2 e2 rr2 S2 => by
    obtain ⟨r, e, q⟩ := h2.bnd.opt
    exact ⟨H, H1, ι2, M2, r1, r2, r, rr1.ext e2, rr2, S2, e, GoX.ret q ι2 _ H2 (e1.trans e2) (.bl r) S2⟩⟩⟩
theorem de_cmp (hu : X.A.units + 65 < cLine) (o : Cop) (hm : behindInMarks (copA o) b = false) (ha : DE G X W a f) (hb : DE G X W b g) :
    DE G X W (.Compare a [copA o] [b] pos) fun env => bnd (f env) fun x => bnd (g env) fun y => bnd (opt (cmpop o x y)) fun r => ret (.d (.bl r)) :=
  (pe_cmpR (op_cmp hu o) ha hb hm).weak fun σ H Q h => cmp_weak h
/-- a value that is a bool, as a test -/
def asBool (f : Env → Md Rv) : Env → Md Bool := fun env => bnd (f env) asB
theorem asB_go {K : PySem.W.Frag} {σ : L2.St} {ι : List Addr} {H : Hp} {r : Rv} {M : Ar} {R : Bool → Ar → Prop} (h : GoX G K W σ ι H (asB r M) R) : ∃ k, r = .d (.bl k) ∧ R k M := by
  cases r with
  | l _ => exact False.elim h
  | d d =>
    cases d with
    | bl k => exact ⟨k, rfl, h⟩
    | _ => exact False.elim h
theorem bool_weak {σ : L2.St} {H : Hp} {Q : Bool → Hp → Prop} (h : liftB G X.K W (asBool f) σ H Q) : liftE G X.K W f σ H fun x H1 => ∃ k, x = .bl k ∧ Q k H1 := by
  obtain ⟨ι, env, M, rs, S, go⟩ := h
  refine ⟨ι, env, M, rs, S, go.bnd.mono fun r1 M1 h1 ι1 v1 H1 e1 rr1 S1 => ?_⟩
  obtain ⟨k, rfl, q⟩ := asB_go h1
  exact ⟨k, Rep.bl_of rr1, q ι1 H1 e1 S1⟩
theorem dt_val {e : Expr} (h : DE G X W e f) (he : ∀ whole, isTrue e X.env whole = (do let v ← whole; standAt e.pos; holding [v] (truthy v))) : DT G X W e (asBool f) := (pt_val h he).weak fun σ H Q q => bool_weak q
theorem mono_liftE {σ : L2.St} {H : Hp} {Q Q' : VK} (h : liftE G X.K W f σ H Q) (m : ∀ v H, Q v H → Q' v H) : liftE G X.K W f σ H Q' := by
  obtain ⟨ι, env, M, rs, S, go⟩ := h
  exact ⟨ι, env, M, rs, S, go.mono fun r1 M1 h1 ι1 v1 H1 e1 rr1 S1 => m _ _ (h1 ι1 v1 H1 e1 rr1 S1)⟩
theorem dt_cmp (hu : X.A.units + 65 < cLine) (o : Cop) (hm : behindInMarks (copA o) b = false) (ha : DE G X W a f) (hb : DE G X W b g) :
    DT G X W (.Compare a [copA o] [b] pos) (asBool fun env => bnd (f env) fun x => bnd (g env) fun y => bnd (opt (cmpop o x y)) fun r => ret (.d (.bl r))) :=
  (pt_cmpR (op_cmp hu o) ha hb hm).weak fun σ H Q h => by
    have := cmp_weak (bool_weak h)
    exact this
theorem chain_weak {o p : Cop} {σ : L2.St} {H : Hp} {Q : VK} (h : liftE G X.K W (fun env => bnd (f env) fun x => bnd (g env) fun y => bnd (opt (cmpop o x y)) fun
      | true => bnd (k env) fun z => bnd (opt (cmpop p y z)) fun r => ret (.d (.bl r))
      | false => ret (.d (.bl false))) σ H Q) :
    tChain (rCp X.K (cmpop o)) (rCp X.K (cmpop p)) (liftE G X.K W f) (liftE G X.K W g) (liftE G X.K W k) σ H Q := by
  obtain ⟨ι, env, M, rs, S, go⟩ := h
  refine ⟨ι, env, M, rs, S, go.bnd.mono fun r1 M1 h1 ι1 v1 H1 e1 rr1 S1 => ⟨ι1, env, M1, rs.ext e1, S1, (h1.bnd.later e1).mono fun r2 M2 h2 ι2 v2 H2 e2 rr2 S2 => ?_⟩⟩
  obtain ⟨r, e, q⟩ := h2.bnd.opt
  refine ⟨H, H1, ι2, M2, r1, r2, r, rr1.ext e2, rr2, S2, e, r, rfl, ?_⟩
  cases r with
  | false => exact GoX.ret q ι2 _ H2 (e1.trans e2) (.bl false) S2
  | true =>
    refine ⟨ι2, env, M2, (rs.ext e1).ext e2, S2, ((GoX.bnd q).later (e1.trans e2)).mono fun r3 M3 h3 ι3 v3 H3 e3 rr3 S3 => ?_⟩
    obtain ⟨r', e', q'⟩ := h3.bnd.opt
    exact ⟨H1, H2, ι3, M3, r2, r3, r', rr2.ext e3, rr3, S3, e', GoX.ret q' ι3 _ H3 (e1.trans (e2.trans e3)) (.bl r') S3⟩
theorem de_chain (hu : X.A.units + 65 < cLine) (o p : Cop) (hm1 : behindInMarks (copA o) b = false) (hm2 : behindInMarks (copA p) c = false) (ha : DE G X W a f) (hb : DE G X W b g) (hc : DE G X W c k)
    (hR : PE X (.Compare a [copA o, copA p] [b, c] pos) (tChain (rCp X.K (cmpop o)) (rCp X.K (cmpop p)) (liftE G X.K W f) (liftE G X.K W g) (liftE G X.K W k))) :
    DE G X W (.Compare a [copA o, copA p] [b, c] pos) fun env => bnd (f env) fun x => bnd (g env) fun y => bnd (opt (cmpop o x y)) fun
      | true => bnd (k env) fun z => bnd (opt (cmpop p y z)) fun r => ret (.d (.bl r))
      | false => ret (.d (.bl false)) := hR.weak fun σ H Q h => chain_weak h
end
end Q
end

section
set_option Elab.async false
set_option linter.all false
set_option maxRecDepth 100000
set_option maxHeartbeats 4000000
namespace Q
open PySem PySem.Spec PyProof.Rows L2
section
variable {G : GX} {X : Cx} {W : WX} {a b c : Expr} {f g k : Env → Md Rv} {pos : Pos} {rest : List Expr}
/-! ### and, or, not, if -/
def sAnd (f g : Env → Md Rv) : Env → Md Rv := fun env => bnd (bnd (f env) asB) fun
  | true => bnd (bnd (g env) asB) fun r => ret (.d (.bl r))
  | false => ret (.d (.bl false))
def sOr (f g : Env → Md Rv) : Env → Md Rv := fun env => bnd (bnd (f env) asB) fun
  | true => ret (.d (.bl true))
  | false => bnd (bnd (g env) asB) fun r => ret (.d (.bl r))
def sNot (f : Env → Md Rv) : Env → Md Rv := fun env => bnd (bnd (f env) asB) fun b => ret (.d (.bl (!b)))
def sIte (c f g : Env → Md Rv) : Env → Md Rv := fun env => bnd (bnd (c env) asB) fun
  | true => f env
  | false => g env
theorem asBool_go {K : PySem.W.Frag} {σ : L2.St} {ι : List Addr} {H : Hp} {env : Env} {M : Ar} {R : Bool → Ar → Prop} (h : GoX G K W σ ι H (bnd (f env) asB M) R) : GoX G K W σ ι H (f env M) fun r M1 => ∃ k, r = .d (.bl k) ∧ R k M1 :=
  h.bnd.mono fun r M1 h1 => asB_go h1
theorem de_and (ha : DE G X W a f) (hb : DE G X W (.BoolOp .And (b :: rest) pos) g) : DE G X W (.BoolOp .And (a :: b :: rest) pos) (sAnd f g) := (pe_and ha hb).weak fun σ H Q ⟨ι, env, M, rs, S, go⟩ => by
  refine ⟨ι, env, M, rs, S, (asBool_go go.bnd).mono fun r1 M1 ⟨k1, er, h1⟩ ι1 v1 H1 e1 rr1 S1 => ?_⟩
  subst er
  refine ⟨k1, Rep.bl_of rr1, ?_⟩
  cases k1 with
  | false => exact GoX.ret h1 ι1 _ H1 e1 (.bl false) S1
  | true =>
    refine ⟨ι1, env, M1, rs.ext e1, S1, ((asBool_go (GoX.bnd h1)).later e1).mono fun r2 M2 ⟨k2, er, h2⟩ ι2 v2 H2 e2 rr2 S2 => ?_⟩
    subst er
    rw [Rep.bl_of rr2]
    exact GoX.ret h2 ι2 _ H2 (e1.trans e2) (.bl k2) S2
theorem de_or (ha : DE G X W a f) (hb : DE G X W (.BoolOp .Or (b :: rest) pos) g) : DE G X W (.BoolOp .Or (a :: b :: rest) pos) (sOr f g) := (pe_or ha hb).weak fun σ H Q ⟨ι, env, M, rs, S, go⟩ => by
  refine ⟨ι, env, M, rs, S, (asBool_go go.bnd).mono fun r1 M1 ⟨k1, er, h1⟩ ι1 v1 H1 e1 rr1 S1 => ?_⟩
  subst er
  refine ⟨k1, Rep.bl_of rr1, ?_⟩
  cases k1 with
  | true => exact GoX.ret h1 ι1 _ H1 e1 (.bl true) S1
  | false =>
    refine ⟨ι1, env, M1, rs.ext e1, S1, ((asBool_go (GoX.bnd h1)).later e1).mono fun r2 M2 ⟨k2, er, h2⟩ ι2 v2 H2 e2 rr2 S2 => ?_⟩
    subst er
    rw [Rep.bl_of rr2]
    exact GoX.ret h2 ι2 _ H2 (e1.trans e2) (.bl k2) S2
theorem asBool_ret {K : PySem.W.Frag} {σ : L2.St} {ι : List Addr} {H : Hp} {x : Md Bool} {M : Ar} {R : Bool → Ar → Prop} (h : GoX G K W σ ι H (bnd (bnd x fun r => ret (.d (.bl r))) asB M) R) : GoX G K W σ ι H (x M) R :=
  h.bnd.bnd.mono fun _ _ h => h
theorem asBool_sAnd {K : PySem.W.Frag} {σ : L2.St} {ι : List Addr} {H : Hp} {env : Env} {M : Ar} {R : Bool → Ar → Prop} (h : GoX G K W σ ι H (asBool (sAnd f g) env M) R) :
    GoX G K W σ ι H (asBool f env M) fun b M1 => if b = true then GoX G K W σ ι H (asBool g env M1) R else R false M1 :=
  h.bnd.bnd.mono fun b M1 h1 => by
    cases b with
    | true => exact GoX.bnd h1 |>.mono fun _ _ z => z
    | false => exact h1
theorem asBool_sOr {K : PySem.W.Frag} {σ : L2.St} {ι : List Addr} {H : Hp} {env : Env} {M : Ar} {R : Bool → Ar → Prop} (h : GoX G K W σ ι H (asBool (sOr f g) env M) R) :
    GoX G K W σ ι H (asBool f env M) fun b M1 => if b = true then R true M1 else GoX G K W σ ι H (asBool g env M1) R :=
  h.bnd.bnd.mono fun b M1 h1 => by
    cases b with
    | false => exact GoX.bnd h1 |>.mono fun _ _ z => z
    | true => exact h1
theorem dw_and (ha : DT G X W a (asBool f)) (hb : DW G X W (.BoolOp .And (b :: rest) pos) (asBool g)) : DW G X W (.BoolOp .And (a :: b :: rest) pos) (asBool (sAnd f g)) := (pw_and ha hb).weak fun σ H Q ⟨ι, env, M, rs, S, go⟩ => by
  refine ⟨ι, env, M, rs, S, (asBool_sAnd go).mono fun b1 M1 h1 ι1 H1 e1 S1 => ?_⟩
  cases b1 with
  | true => exact ⟨ι1, env, M1, rs.ext e1, S1, (GoX.later h1 e1).mono fun b2 M2 h2 ι2 H2 e2 S2 => h2 ι2 H2 (e1.trans e2) S2⟩
  | false => exact h1 ι1 H1 e1 S1
theorem dw_or (ha : DT G X W a (asBool f)) (hb : DW G X W (.BoolOp .Or (b :: rest) pos) (asBool g)) : DW G X W (.BoolOp .Or (a :: b :: rest) pos) (asBool (sOr f g)) := (pw_or ha hb).weak fun σ H Q ⟨ι, env, M, rs, S, go⟩ => by
  refine ⟨ι, env, M, rs, S, (asBool_sOr go).mono fun b1 M1 h1 ι1 H1 e1 S1 => ?_⟩
  cases b1 with
  | false => exact ⟨ι1, env, M1, rs.ext e1, S1, (GoX.later h1 e1).mono fun b2 M2 h2 ι2 H2 e2 S2 => h2 ι2 H2 (e1.trans e2) S2⟩
  | true => exact h1 ι1 H1 e1 S1
theorem de_not (ha : DE G X W a f) : DE G X W (.UnaryOp .Not a pos) (sNot f) := (pe_not ha).weak fun σ H Q ⟨ι, env, M, rs, S, go⟩ => by
  refine ⟨ι, env, M, rs, S, (asBool_go go.bnd).mono fun r1 M1 ⟨k1, er, h1⟩ ι1 v1 H1 e1 rr1 S1 => ?_⟩
  subst er
  exact ⟨k1, Rep.bl_of rr1, GoX.ret h1 ι1 _ H1 e1 (.bl _) S1⟩
theorem dt_not (ha : DT G X W a (asBool f)) : DT G X W (.UnaryOp .Not a pos) (asBool (sNot f)) := (pt_not ha).weak fun σ H Q ⟨ι, env, M, rs, S, go⟩ =>
  ⟨ι, env, M, rs, S, (GoX.bnd go).bnd.mono fun b1 M1 h1 ι1 H1 e1 S1 => GoX.ret h1 ι1 H1 e1 S1⟩
theorem de_ite (hc : DT G X W c (asBool k)) (ha : DE G X W a f) (hb : DE G X W b g) : DE G X W (.IfExp c a b pos) (sIte k f g) := (pe_ifExp hc ha hb).weak fun σ H Q ⟨ι, env, M, rs, S, go⟩ => by
  refine ⟨ι, env, M, rs, S, go.bnd.mono fun b1 M1 h1 ι1 H1 e1 S1 => ?_⟩
  cases b1 with
  | true => exact ⟨ι1, env, M1, rs.ext e1, S1, (GoX.later h1 e1).mono fun r M2 h2 ι2 v2 H2 e2 rr S2 => FinE.go h2 e1 e2 rr S2⟩
  | false => exact ⟨ι1, env, M1, rs.ext e1, S1, (GoX.later h1 e1).mono fun r M2 h2 ι2 v2 H2 e2 rr S2 => FinE.go h2 e1 e2 rr S2⟩
def sNeg (f : Env → Md Rv) : Env → Md Rv := fun env => bnd (f env) fun
  | .d (.int i) => ret (.d (.int (-i)))
  | _ => stk
theorem de_neg (ha : DE G X W a f) : DE G X W (.UnaryOp .USub a pos) (sNeg f) := (pe_un un_neg ha).weak fun σ H Q ⟨ι, env, M, rs, S, go⟩ => by
  refine ⟨ι, env, M, rs, S, go.bnd.mono fun r1 M1 h1 ι1 v1 H1 e1 rr1 S1 => ?_⟩
  cases r1 with
  | l _ => exact False.elim h1
  | d d =>
    cases d with
    | int i => exact ⟨i, Rep.int_of rr1, GoX.ret h1 ι1 _ H1 e1 (.int _) S1⟩
    | _ => exact False.elim h1

/-! ### items, slices, displays -/
def sIdx (f g : Env → Md Rv) : Env → Md Rv := fun env => bnd (f env) fun x => bnd (g env) fun y => opt (index x y)
theorem de_idx (hp : PlainIx b) (ha : DE G X W a f) (hb : DE G X W b g) : DE G X W (.Subscript a b pos) (sIdx f g) := (pe_ix ix_ok ha hb hp).weak fun σ H Q ⟨ι, env, M, rs, S, go⟩ =>
  ⟨ι, env, M, rs, S, go.bnd.mono fun r1 M1 h1 ι1 v1 H1 e1 rr1 S1 => ⟨ι1, env, M1, rs.ext e1, S1, (h1.bnd.later e1).mono fun r2 M2 h2 ι2 v2 H2 e2 rr2 S2 => by
    obtain ⟨r, e, q⟩ := h2.opt
    exact ⟨H, H1, ι2, M2, r1, r2, r, rr1.ext e2, rr2, S2, e, fun H' v e3 rr3 S3 => FinE.go q (e1.trans e2) e3 rr3 S3⟩⟩⟩
/-- a part of a slice -/
def liftP (G : GX) (K : PySem.W.Frag) (W : WX) (f : Env → Md (Option Int)) : TO := fun σ H Q => ∃ ι env M, RepSt K ι H σ env ∧ Sim K ι H M ∧ GoX G K W σ ι H (f env M) fun o M' => ∀ ι' H', Ext K ι H ι' H' → Sim K ι' H' M' → Q o H'
theorem _root_.L2.PO.weak {X : Cx} {e : Option Expr} {t t' : TO} (h : PO X e t) (w : ∀ σ H Q, t' σ H Q → t σ H Q) : PO X e t' := ⟨fun pins s σ H Q I q => h.run pins s σ H Q I (w σ H Q q)⟩
theorem dp_none : PO X none (liftP G X.K W fun env => bnd (ret (.d .non)) (partM true)) := po_none.weak fun σ H Q ⟨ι, env, M, rs, S, go⟩ => go ι H Ext.refl S
theorem dp_some (ha : DE G X W a f) : PO X (some a) (liftP G X.K W fun env => bnd (f env) (partM false)) := (po_some ha).weak fun σ H Q ⟨ι, env, M, rs, S, go⟩ => by
  refine ⟨ι, env, M, rs, S, go.bnd.mono fun r1 M1 h1 ι1 v1 H1 e1 rr1 S1 => ?_⟩
  cases r1 with
  | l _ => exact False.elim h1
  | d d =>
    cases d with
    | int i => exact ⟨i, Rep.int_of rr1, GoX.ret h1 ι1 H1 e1 S1⟩
    | _ => exact False.elim h1
theorem de_slc {lo hi : Option Expr} {p2 : Pos} {fl fh : Env → Md (Option Int)} (ha : DE G X W a f) (hl : PO X lo (liftP G X.K W fl)) (hh : PO X hi (liftP G X.K W fh)) :
    DE G X W (.Subscript a (.Slice lo hi none p2) pos) fun env => bnd (f env) fun x => bnd (fl env) fun l => bnd (fh env) fun h => opt (slice x l h) := (pe_slice sl_ok ha hl hh).weak fun σ H Q ⟨ι, env, M, rs, S, go⟩ =>
  ⟨ι, env, M, rs, S, go.bnd.mono fun r1 M1 h1 ι1 v1 H1 e1 rr1 S1 => ⟨ι1, env, M1, rs.ext e1, S1, (h1.bnd.later e1).mono fun l M2 h2 ι2 H2 e2 S2 =>
    ⟨ι2, env, M2, (rs.ext e1).ext e2, S2, (h2.bnd.later (e1.trans e2)).mono fun h M3 h3 ι3 H3 e3 S3 => by
      obtain ⟨r, e, q⟩ := h3.opt
      exact ⟨H, ι3, M3, r1, r, (rr1.ext e2).ext e3, S3, e, fun H' v e4 rr4 S4 => FinE.go q (e1.trans (e2.trans e3)) e4 rr4 S4⟩⟩⟩⟩
/-- a value gets its place -/
theorem settle_go {K : PySem.W.Frag} {σ : L2.St} {ι ι1 : List Addr} {H H1 : Hp} {r : Rv} {M1 : Ar} {v : V} {R : D → Ar → Prop} (h : GoX G K W σ ι H (settle r M1) R) (e1 : Ext K ι H ι1 H1) (rr : RepR K H ι1 H1 v r) (S1 : Sim K ι1 H1 M1) :
    ∃ d ι2 M2, R d M2 ∧ Ext K ι H ι2 H1 ∧ Rep K ι2 H1 v d ∧ Sim K ι2 H1 M2 := by
  cases r with
  | d d => exact ⟨d, ι1, M1, h, e1, rr, S1⟩
  | l ds =>
    obtain ⟨a, vs, rfl, h1, h2, h3, h4⟩ := rr
    refine ⟨.ref M1.length, ι1 ++ [a], _, h, e1.place h2, .ref ?_, S1.place h3 h1 h4⟩
    rw [← S1.len, List.getElem?_append_right (Nat.le_refl _), Nat.sub_self]
    rfl
def sCons (f : Env → Md Rv) (t : Env → Md (List D)) : Env → Md (List D) := fun env => bnd (bnd (f env) settle) fun d => bnd (t env) fun ds => ret (d :: ds)
def sStar (f : Env → Md Rv) (t : Env → Md (List D)) : Env → Md (List D) := fun env => bnd (f env) fun x => bnd (opt fun M => asS M x) fun xs => bnd (t env) fun ds => ret (xs ++ ds)
abbrev DA (G : GX) (X : Cx) (W : WX) (es : List Expr) (t : Env → Md (List D)) : Prop := PA X es (liftA G X.K W t)
theorem da_nil : DA G X W [] fun _ => ret [] := pa_nil.weak fun σ H Q ⟨ι, env, M, rs, S, go⟩ => go ι [] H Ext.refl .nil S
theorem da_cons {t : Env → Md (List D)} (ha : DE G X W a f) (hr : DA G X W rest t) (hs : starEach (a :: rest) X.env = (false, eval a X.env) :: starEach rest X.env) : DA G X W (a :: rest) (sCons f t) := (pa_cons ha hr hs).weak fun σ H Q ⟨ι, env, M, rs, S, go⟩ =>
  ⟨ι, env, M, rs, S, go.bnd.bnd.mono fun r1 M1 h1 ι1 v1 H1 e1 rr1 S1 => by
    obtain ⟨d, ι2, M2, h2, e2, rd, S2⟩ := settle_go h1 e1 rr1 S1
    exact ⟨ι2, env, M2, rs.ext e2, S2, (h2.bnd.later e2).mono fun ds M3 h3 ι3 vs H3 e3 rds S3 => GoX.ret h3 ι3 _ H3 (e2.trans e3) (.cons (rd.ext e3) rds) S3⟩⟩
theorem da_star {t : Env → Md (List D)} {p : Pos} (ha : DE G X W a f) (hr : DA G X W rest t) : DA G X W (.Starred a p :: rest) (sStar f t) := (StX.pa_star ha hr rfl).weak fun σ H Q ⟨ι, env, M, rs, S, go⟩ =>
  ⟨ι, env, M, rs, S, go.bnd.mono fun r1 M1 h1 ι1 v1 H1 e1 rr1 S1 => by
    obtain ⟨ds, e, h2⟩ := h1.bnd.opt
    obtain ⟨p, vs, rfl, hs, rp⟩ := asS_of S1 rr1 e
    exact ⟨p, vs, rfl, hs.symm, ι1, env, M1, rs.ext e1, S1, ((GoX.bnd h2).later e1).mono fun es M3 h3 ι3 ws H3 e3 rds S3 => GoX.ret h3 ι3 _ H3 (e1.trans e3) ((rp.ext e3).append rds) S3⟩⟩
def sTup (t : Env → Md (List D)) : Env → Md Rv := fun env => bnd (t env) fun ds => if ds.length ≤ line then ret (.d (.tup ds)) else stk
def sLst (t : Env → Md (List D)) : Env → Md Rv := fun env => bnd (t env) fun ds => if ds.length ≤ line then ret (.l ds) else stk
theorem de_tup {es : List Expr} {k : Nat} {t : Env → Md (List D)} (h : DA G X W es t) : DE G X W (.Tuple es k pos) (sTup t) := (pe_tup h).weak fun σ H Q ⟨ι, env, M, rs, S, go⟩ =>
  ⟨ι, env, M, rs, S, go.bnd.mono fun ds M1 h1 ι1 vs H1 e1 rds S1 => by
    by_cases hl : ds.length ≤ line
    · rw [if_pos hl] at h1
      refine ⟨by rw [rds.length]; exact Nat.le_trans hl line_le, new_tup S1 rds fun H' v e2 rr S2 => GoX.ret h1 ι1 v H' (e1.trans e2) rr S2⟩
    · rw [if_neg hl] at h1
      exact False.elim h1⟩
theorem de_lst {es : List Expr} {t : Env → Md (List D)} (h : DA G X W es t) : DE G X W (.List es pos) (sLst t) := (pe_lst h).weak fun σ H Q ⟨ι, env, M, rs, S, go⟩ =>
  ⟨ι, env, M, rs, S, go.bnd.mono fun ds M1 h1 ι1 vs H1 e1 rds S1 => by
    by_cases hl : ds.length ≤ line
    · rw [if_pos hl] at h1
      refine ⟨by rw [rds.length]; exact Nat.le_trans hl line_le, new_list S1 rds fun H' v e2 rr S2 => FinE.go (GoX.ret h1) e1 e2 rr S2⟩
    · rw [if_neg hl] at h1
      exact False.elim h1⟩

/-! ### built-in functions, calls -/
abbrev DR (G : GX) (X : Cx) (W : WX) (es : List Expr) (t : Env → Md (List Rv)) : Prop := PA X es (liftR G X.K W t)
def sRcons (f : Env → Md Rv) (t : Env → Md (List Rv)) : Env → Md (List Rv) := fun env => bnd (f env) fun d => bnd (t env) fun ds => ret (d :: ds)
theorem RepRs.ext {K : PySem.W.Frag} {ι ι' : List Addr} {H H' : Hp} (e : Ext K ι H ι' H') : ∀ {vs : List V} {rs : List Rv}, RepRs K ι H vs rs → RepRs K ι' H' vs rs
  | _, _, .nil => .nil
  | _, _, .cons h t => .cons (RepR.ext e h) (RepRs.ext e t)
theorem dr_nil : DR G X W [] fun _ => ret [] := pa_nil.weak fun σ H Q ⟨ι, env, M, rs, S, go⟩ => go ι [] H Ext.refl .nil S
theorem dr_cons {t : Env → Md (List Rv)} (ha : DE G X W a f) (hr : DR G X W rest t) (hs : starEach (a :: rest) X.env = (false, eval a X.env) :: starEach rest X.env) : DR G X W (a :: rest) (sRcons f t) := (pa_cons ha hr hs).weak fun σ H Q ⟨ι, env, M, rs, S, go⟩ =>
  ⟨ι, env, M, rs, S, go.bnd.mono fun r1 M1 h1 ι1 v1 H1 e1 rr1 S1 =>
    ⟨ι1, env, M1, rs.ext e1, S1, (h1.bnd.later e1).mono fun ds M3 h3 ι3 vs H3 e3 rds S3 => GoX.ret h3 ι3 _ H3 (e1.trans e3) (.cons (rr1.ext e3) rds) S3⟩⟩
def sBlt (b : Blt) (t : Env → Md (List Rv)) : Env → Md Rv := fun env => bnd (t env) fun xs => opt (builtin b xs)
theorem blt_weak {b : Blt} {t : Env → Md (List Rv)} {σ : L2.St} {H : Hp} {Q : VK} (h : liftE G X.K W (sBlt b t) σ H Q) : tCB (rBi X.K b) (liftR G X.K W t) σ H Q := by
  obtain ⟨ι, env, M, rs, S, go⟩ := h
  refine ⟨ι, env, M, rs, S, go.bnd.mono fun xs M1 h1 ι1 vs H1 e1 rr S1 => ?_⟩
  obtain ⟨r, e, q⟩ := h1.opt
  exact ⟨ι1, M1, xs, r, rr, S1, e, fun H' v e2 rr2 S2 => FinE.go q e1 e2 rr2 S2⟩
/-- a def's promise by what it computes -/
def spD (G : GX) (K : PySem.W.Frag) (n : Nat) (F : List D → Md Rv) : Sp := fun vs H Q E => vs.length = n ∧ ∃ ι M ds, Reps K ι H vs ds ∧ Sim K ι H M ∧ match F ds M with
  | .ok r M' => ∀ ι' v H', Ext K ι H ι' H' → RepR K H ι' H' v r → Sim K ι' H' M' → Q v H'
  | .exc c p M' => ∀ ι' cls oe H', Ext K ι H ι' H' → Sim K ι' H' M' → G.ea K ι' H' c p cls oe → E cls oe H'
  | .stuck => False
mutual
theorem Rep.lower {K : PySem.W.Frag} {ι ι' : List Addr} {H : Hp} {n : Nat} (e : ∀ (k : Nat) (a : Addr), k < n → ι[k]? = some a → ι'[k]? = some a) : ∀ {v : V} {d : D}, d.refsLt n = true → Rep K ι H v d → Rep K ι' H v d
  | _, _, _, .non => .non
  | _, _, _, .bl b => .bl b
  | _, _, _, .int i => .int i
  | _, _, _, .str x => .str x
  | _, _, h, .tup q r => .tup q (Reps.lower e h r)
  | _, _, h, .rl q r => .rl q (Reps.lower e h r)
  | _, _, h, .ref q => .ref (e _ _ (by simpa [D.refsLt] using h) q)
theorem Reps.lower {K : PySem.W.Frag} {ι ι' : List Addr} {H : Hp} {n : Nat} (e : ∀ (k : Nat) (a : Addr), k < n → ι[k]? = some a → ι'[k]? = some a) : ∀ {vs : List V} {ds : List D}, D.refsLt_all n ds = true → Reps K ι H vs ds → Reps K ι' H vs ds
  | _, _, _, .nil => .nil
  | _, _, h, .cons q r => .cons (Rep.lower e (Bool.and_eq_true_iff.mp h).1 q) (Reps.lower e (Bool.and_eq_true_iff.mp h).2 r)
end
mutual
theorem Rep.refs {K : PySem.W.Frag} {ι : List Addr} {H : Hp} : ∀ {v : V} {d : D}, Rep K ι H v d → d.refsLt ι.length = true
  | _, _, .non => rfl
  | _, _, .bl b => rfl
  | _, _, .int i => rfl
  | _, _, .str x => rfl
  | _, _, .tup q r => Reps.refs r
  | _, _, .rl q r => Reps.refs r
  | _, _, .ref q => by
    have := (List.getElem?_eq_some_iff.mp q).1
    simpa [D.refsLt] using this
theorem Reps.refs {K : PySem.W.Frag} {ι : List Addr} {H : Hp} : ∀ {vs : List V} {ds : List D}, Reps K ι H vs ds → D.refsLt_all ι.length ds = true
  | _, _, .nil => rfl
  | _, _, .cons q r => Bool.and_eq_true_iff.mpr ⟨Rep.refs q, Reps.refs r⟩
end
theorem okOld_get {n : Nat} : ∀ {M M' : Ar}, okOld n M M' = true → ∀ {i : Nat} {o : Ob}, M[i]? = some o → ∃ o', M'[i]? = some o' ∧ (o'.refsLt n = true ∨ o' = o)
  | [], _, _, i, o, h => by simp at h
  | o :: os, [], h, _, _, _ => by simp [okOld] at h
  | o :: os, o' :: os', h, 0, u, e => by
    obtain ⟨h1, _⟩ := Bool.and_eq_true_iff.mp h
    simp at e
    subst e
    refine ⟨o', rfl, ?_⟩
    rcases Bool.or_eq_true_iff.mp h1 with h1 | h1
    · exact .inl h1
    · exact .inr (Ob.eqb_eq h1)
  | o :: os, o' :: os', h, i + 1, u, e => by
    obtain ⟨_, h2⟩ := Bool.and_eq_true_iff.mp h
    simpa using okOld_get h2 (i := i) (by simpa using e)
theorem RepO.lower {K : PySem.W.Frag} {ι ι' : List Addr} {H : Hp} {n : Nat} (e : ∀ (k : Nat) (a : Addr), k < n → ι[k]? = some a → ι'[k]? = some a) {a : Addr} {o : Ob} (h : o.refsLt n = true) (r : RepO K ι H a o) : RepO K ι' H a o := by
  cases o with
  | lst ds => obtain ⟨vs, h1, h2⟩ := r; exact ⟨vs, h1, h2.lower e h⟩
theorem RepO.refs {K : PySem.W.Frag} {ι : List Addr} {H : Hp} {a : Addr} {o : Ob} (r : RepO K ι H a o) : o.refsLt ι.length = true := by
  cases o with
  | lst ds => obtain ⟨vs, h1, h2⟩ := r; exact h2.refs
/-- what nobody reaches is dropped -/
theorem trunc_ok {K : PySem.W.Frag} {ι ι' : List Addr} {H H' : Hp} {M M' : Ar} {v : V} {r : Rv} (S : Sim K ι H M) (e : Ext K ι H ι' H') (S' : Sim K ι' H' M') (rr : RepR K H ι' H' v r) (h1 : okRv M.length r = true) (h2 : okOld M.length M M' = true) :
    Ext K ι H ι H' ∧ RepR K H ι H' v r ∧ Sim K ι H' (M'.take M.length) := by
  have low : ∀ (k : Nat) (a : Addr), k < M.length → ι'[k]? = some a → ι[k]? = some a := fun k a hk q => by
    have hk' : k < ι.length := by rw [S.len]; exact hk
    have := e.pre k _ (List.getElem?_eq_getElem hk')
    rw [q] at this
    rw [List.getElem?_eq_getElem hk', Option.some.inj this]
  have nin : ∀ a, a ∉ ι' → a ∉ ι := fun a h z => by
    obtain ⟨n, hn, q⟩ := List.getElem_of_mem z
    exact h (List.mem_of_getElem? (e.pre n a (by rw [List.getElem?_eq_getElem hn, q])))
  refine ⟨⟨fun _ _ q => q, e.tup, e.fz, fun a o q n => ⟨(e.out a o q n).1, n⟩, e.there⟩, ?_, ⟨S.nd, ?_, fun n a o q1 q2 => ?_⟩⟩
  · cases r with
    | d d => exact Rep.lower low h1 rr
    | l ds =>
      obtain ⟨a, vs, rfl, g1, g2, g3, g4⟩ := rr
      exact ⟨a, vs, rfl, g1, g2, nin a g3, g4.lower low h1⟩
  · have hl : M.length ≤ M'.length := by
      rw [← S'.len, ← S.len]
      refine Nat.le_of_not_lt fun z => ?_
      have := e.pre ι'.length _ (List.getElem?_eq_getElem z)
      rw [List.getElem?_eq_none (Nat.le_refl _)] at this
      cases this
    rw [List.length_take, S.len]; omega
  · have hn : n < M.length := by rw [← S.len]; exact (List.getElem?_eq_some_iff.mp q1).1
    rw [List.getElem?_take_of_lt hn] at q2
    obtain ⟨o', g1, g2⟩ := okOld_get h2 (List.getElem?_eq_getElem hn)
    rw [q2] at g1; cases g1
    have ro := S'.ob n a o (e.pre n a q1) q2
    rcases g2 with g2 | g2
    · exact ro.lower low g2
    · refine ro.lower low ?_
      have := (S.ob n a M[n] q1 (List.getElem?_eq_getElem hn)).refs
      rw [g2, ← S.len]; exact this
def sCall (F : List D → Md Rv) (t : Env → Md (List D)) : Env → Md Rv := fun env M => trunc M (bnd (t env) (fun ds => F ds) M)
theorem trunc_go {K : PySem.W.Frag} {σ : L2.St} {ι : List Addr} {H : Hp} {Q : VK} {M : Ar} {x : Out Rv} (S : Sim K ι H M) (h : GoX G K W σ ι H (trunc M x) (FinE K ι H Q)) : GoX G K W σ ι H x (FinE K ι H Q) := by
  cases x with
  | exc c p M' => exact h
  | stuck => exact h
  | ok r M' =>
    intro ι' v H' e rr S'
    have h : GoX G K W σ ι H (if M.length < M'.length && okRv M.length r && okOld M.length M M' then .ok r (M'.take M.length) else .ok r M') (FinE K ι H Q) := h
    by_cases hc : (decide (M.length < M'.length) && okRv M.length r && okOld M.length M M') = true
    · rw [if_pos hc] at h
      obtain ⟨hc, h2⟩ := Bool.and_eq_true_iff.mp hc
      obtain ⟨_, h1⟩ := Bool.and_eq_true_iff.mp hc
      obtain ⟨g1, g2, g3⟩ := trunc_ok S e S' rr h1 h2
      exact h ι v H' g1 g2 g3
    · rw [if_neg hc] at h
      exact h ι' v H' e rr S'
theorem call_weak {F : List D → Md Rv} {t : Env → Md (List D)} {n : Nat} {σ : L2.St} {H : Hp} {Q : VK} (hn : ∀ ds M, ds.length ≠ n → F ds M = .stuck) (h : liftE G X.K W (sCall F t) σ H Q) :
    tCallS (spD G X.K n F) (WE W) (liftA G X.K W t) σ H Q := by
  obtain ⟨ι, env, M, rs, S, go⟩ := h
  have go := trunc_go S go
  refine ⟨ι, env, M, rs, S, go.bnd.mono fun ds M1 h1 ι1 vs H1 e1 rr S1 => ?_⟩
  have hl : ds.length = n := by
    by_cases hl : ds.length = n
    · exact hl
    · rw [hn ds M1 hl] at h1; exact False.elim h1
  refine ⟨by rw [rr.length]; exact hl, ι1, M1, ds, rr, S1, ?_⟩
  cases e : F ds M1 with
  | ok r M2 => rw [e] at h1; exact fun ι' v H' e2 rr2 S2 => FinE.go h1 e1 e2 rr2 S2
  | exc c p M2 => rw [e] at h1; exact fun ι' cls oe H' e2 S2 q => h1 ι' cls oe H' (e1.trans e2) S2 q
  | stuck => rw [e] at h1; exact False.elim h1
end
end Q
end

section
set_option Elab.async false
set_option linter.all false
set_option maxRecDepth 100000
set_option maxHeartbeats 4000000
/-! Walks, comprehensions. -/
namespace Q
open PySem PySem.Spec PyProof.Rows L2
section
variable {K : PySem.W.Frag} {ι ι' : List Addr} {H H' : Hp} {M : Ar}
/-- a list that has no place is written -/
theorem Rep.upd_l {D0 : Addr} {us ws : List V} (h : H D0 = some (.lst us)) : (∀ {v : V} {d : D}, Rep K ι H v d → Rep K ι (upd H D0 (.lst ws)) v d) ∧ ∀ {vs : List V} {ds : List D}, Reps K ι H vs ds → Reps K ι (upd H D0 (.lst ws)) vs ds := by
  have t : ∀ a xs, SqT K H a xs → SqT K (upd H D0 (.lst ws)) a xs := fun a xs q => by
    rcases q with (q | ⟨o, q⟩) | q
    · exact .inl (.inl (by rw [upd_ne fun e => by subst e; rw [h] at q; cases q]; exact q))
    · exact .inl (.inr ⟨o, by rw [upd_ne fun e => by subst e; rw [h] at q; cases q]; exact q⟩)
    · exact .inr q
  have z : ∀ a xs, FzL K H a xs → FzL K (upd H D0 (.lst ws)) a xs := fun a xs q => by
    rcases q with ⟨o, q⟩ | q
    · exact .inl ⟨o, by rw [upd_ne fun e => by subst e; rw [h] at q; cases q]; exact q⟩
    · exact .inr q
  have both : ∀ n : Nat, (∀ {v : V} {d : D}, sizeOf d < n → Rep K ι H v d → Rep K ι (upd H D0 (.lst ws)) v d) ∧ ∀ {vs : List V} {ds : List D}, sizeOf ds < n → Reps K ι H vs ds → Reps K ι (upd H D0 (.lst ws)) vs ds := by
    intro n
    induction n with
    | zero => exact ⟨fun q => absurd q (Nat.not_lt_zero _), fun q => absurd q (Nat.not_lt_zero _)⟩
    | succ n ih =>
      refine ⟨fun {v d} hs r => ?_, fun {vs ds} hs r => ?_⟩
      · cases r with
        | non => exact .non
        | bl b => exact .bl b
        | int i => exact .int i
        | str x => exact .str x
        | tup q r => exact .tup (t _ _ q) (ih.2 (by simp at hs; omega) r)
        | rl q r => exact .rl (z _ _ q) (ih.2 (by simp at hs; omega) r)
        | ref q => exact .ref q
      · cases r with
        | nil => exact .nil
        | cons a b => exact .cons (ih.1 (by simp at hs; omega) a) (ih.2 (by simp at hs; omega) b)
  exact ⟨fun r => (both _).1 (Nat.lt_succ_self _) r, fun r => (both _).2 (Nat.lt_succ_self _) r⟩
theorem Sim.upd_l {D0 : Addr} {us ws : List V} (S : Sim K ι H M) (h : H D0 = some (.lst us)) (n : D0 ∉ ι) : Sim K ι (upd H D0 (.lst ws)) M := by
  refine ⟨S.nd, S.len, fun k a o h1 h2 => ?_⟩
  have r := S.ob k a o h1 h2
  have ne : a ≠ D0 := fun e => n (by rw [← e]; exact List.mem_of_getElem? h1)
  cases o with
  | lst ds => obtain ⟨vs, q1, q2⟩ := r; exact ⟨vs, by rw [upd_ne ne]; exact q1, (Rep.upd_l h).2 q2⟩
theorem Ext.upd_l {ι₀ : List Addr} {H₀ : Hp} {D0 : Addr} {o : HO} (e : Ext K ι₀ H₀ ι H) (h0 : H₀ D0 = none) (h : H D0 ≠ none) : Ext K ι₀ H₀ ι (upd H D0 o) := by
  have ne : ∀ {a u}, H₀ a = some u → a ≠ D0 := fun q z => by subst z; rw [h0] at q; cases q
  refine ⟨e.pre, fun a xs q => ?_, fun a xs q => ?_, fun a u q m => ⟨by rw [upd_ne (ne q)]; exact (e.out a u q m).1, (e.out a u q m).2⟩, fun a q => ?_⟩
  · have q' := e.tup a xs q
    rcases q with (q | ⟨o, q⟩) | q
    · exact SqT.at q' (.inl (upd_ne (ne q)))
    · exact SqT.at q' (.inl (upd_ne (ne q)))
    · exact .inr q
  · have q' := e.fz a xs q
    rcases q with ⟨o, q⟩ | q
    · rcases q' with ⟨o', q'⟩ | q'
      · exact .inl ⟨o', by rw [upd_ne (ne q)]; exact q'⟩
      · exact .inr q'
    · exact .inr q
  · by_cases z : a = D0
    · subst z; exact absurd h0 q
    · rw [upd_ne z]; exact e.there a q
theorem RepSt.wipe {σ : L2.St} {env : Env} (r : RepSt K ι H σ env) : ∀ vs : List Nat, RepSt K ι H (L2.wipe σ vs) (Q.wipe env vs)
  | [] => r
  | v :: vs => fun i d h => by
    unfold Q.wipe at h
    unfold L2.wipe
    by_cases e : v = i
    · subst e
      by_cases hl : v < (Q.wipe env vs).length
      · rw [List.getElem?_set_self hl] at h; cases h
      · rw [List.getElem?_eq_none (by simpa using hl)] at h; cases h
    · rw [List.getElem?_set_ne e] at h
      rw [List.getElem?_set_ne e]
      exact RepSt.wipe r vs i d h
theorem RepSt.set {σ : L2.St} {env : Env} {i : Nat} {v : V} {d : D} (r : RepSt K ι H σ env) (h : Rep K ι H v d) (hi : i < σ.length) : RepSt K ι H (σ.set i (some v)) (env.set i (some d)) := fun j d' h' => by
  by_cases e : i = j
  · subst e
    by_cases hl : i < env.length
    · rw [List.getElem?_set_self hl] at h'; cases h'
      exact ⟨v, List.getElem?_set_self hi, h⟩
    · rw [List.getElem?_eq_none (by simpa using hl)] at h'; cases h'
  · rw [List.getElem?_set_ne e] at h'
    rw [List.getElem?_set_ne e]
    exact r j d' h'
end

/-- what an iterator hands out -/
structure Yl (K : PySem.W.Frag) (ι₀ : List Addr) (H₀ : Hp) (J : It) (iv : Itv) : Prop where
  go : ∀ i ι H M d, Ext K ι₀ H₀ ι H → Sim K ι H M → itNth M i iv = some d → J.go i H ∧ ∀ x H', J.yld i H x H' → Ext K ι H ι H' ∧ Sim K ι H' M ∧ Rep K ι H' x d
  stop : ∀ i ι H M l, Ext K ι₀ H₀ ι H → Sim K ι H M → itLen M iv = some l → l ≤ i → J.stop i H
def FinI (K : PySem.W.Frag) (ι : List Addr) (H : Hp) (R : It → Hp → Prop) : Itv → Ar → Prop := fun iv M' => ∀ ι' H' J, Ext K ι H ι' H' → Sim K ι' H' M' → Yl K ι' H' J iv → R J H'
def liftI (G : GX) (K : PySem.W.Frag) (W : WX) (f : Env → Md Itv) : TI := fun σ H R => ∃ ι env M, RepSt K ι H σ env ∧ Sim K ι H M ∧ GoX G K W σ ι H (f env M) (FinI K ι H R)
abbrev DI (G : GX) (X : Cx) (W : WX) (tg e : Expr) (f : Env → Md Itv) : Prop := PI X tg e (liftI G X.K W f)
theorem yl_list {K : PySem.W.Frag} {ι : List Addr} {H : Hp} {a : Addr} {vs : List V} {ds : List D} (h : ∀ ι' H', Ext K ι H ι' H' → SqL K H' a vs) (r : Reps K ι H vs ds) : Yl K ι H (Itl K a) (.st ds) where
  go := fun i ι' H' M d e S q => by
    obtain ⟨v, h1, h2⟩ := (r.ext e).get (show ds[i]? = some d from q)
    exact ⟨⟨vs, v, h ι' H' e, h1⟩, fun x H2 y => by
      obtain ⟨rfl, y⟩ := y
      have := y vs (h ι' _ e)
      rw [h1] at this; cases this
      exact ⟨Ext.refl, S, h2⟩⟩
  stop := fun i ι' H' M l e S q hl => by
    cases q
    exact ⟨vs, h ι' H' e, by rw [r.length]; exact hl⟩
theorem yl_tup {K : PySem.W.Frag} {ι : List Addr} {H : Hp} {a : Addr} {vs : List V} {ds : List D} (h : SqT K H a vs) (r : Reps K ι H vs ds) : Yl K ι H (Itt K a) (.st ds) where
  go := fun i ι' H' M d e S q => by
    obtain ⟨v, h1, h2⟩ := (r.ext e).get (show ds[i]? = some d from q)
    exact ⟨⟨vs, v, e.tup _ _ h, h1⟩, fun x H2 y => by
      obtain ⟨rfl, y⟩ := y
      have := y vs (e.tup _ _ h)
      rw [h1] at this; cases this
      exact ⟨Ext.refl, S, h2⟩⟩
  stop := fun i ι' H' M l e S q hl => by
    cases q
    exact ⟨vs, e.tup _ _ h, by rw [r.length]; exact hl⟩
theorem lstAt_some {M : Ar} {n : Nat} {ds : List D} (h : lstAt M n = some ds) : M[n]? = some (.lst ds) := by
  unfold lstAt at h
  cases e : M[n]? with
  | none => rw [e] at h; cases h
  | some o => cases o; rw [e] at h; cases h; rfl
theorem yl_one {K : PySem.W.Frag} {ι : List Addr} {H : Hp} {a : Addr} {n : Nat} (h : ι[n]? = some a) : Yl K ι H (Itl K a) (.one n) where
  go := fun i ι' H' M d e S q => by
    obtain ⟨ds, q1, q2⟩ := bind_some (show (lstAt M n).bind (·[i]?) = some d from q)
    obtain ⟨b, hb, vs, h1, h2⟩ := S.look (lstAt_some q1)
    rw [e.pre n a h] at hb; cases hb
    obtain ⟨v, g1, g2⟩ := h2.get q2
    exact ⟨⟨vs, v, SqL.of h1, g1⟩, fun x H2 y => by
      obtain ⟨rfl, y⟩ := y
      have := y vs (SqL.of h1)
      rw [g1] at this; cases this
      exact ⟨Ext.refl, S, g2⟩⟩
  stop := fun i ι' H' M l e S q hl => by
    obtain ⟨ds, q1, rfl⟩ := Option.map_eq_some_iff.mp (show (lstAt M n).map (·.length) = some l from q)
    obtain ⟨b, hb, vs, h1, h2⟩ := S.look (lstAt_some q1)
    rw [e.pre n a h] at hb; cases hb
    exact ⟨vs, SqL.of h1, by rw [h2.length]; exact hl⟩
theorem yl_str {K : PySem.W.Frag} {ι : List Addr} {H : Hp} {cs : List Nat} : Yl K ι H (Its ⟨cs.toArray⟩) (.st (cs.map fun c => .str [c])) where
  go := fun i ι' H' M d e S q => by
    have q : (cs.map fun c => D.str [c])[i]? = some d := q
    rw [List.getElem?_map] at q
    obtain ⟨c, q1, rfl⟩ := Option.map_eq_some_iff.mp q
    have hi : i < cs.length := (List.getElem?_eq_some_iff.mp q1).1
    exact ⟨by show i < cs.toArray.size; rw [List.size_toArray]; exact hi, fun x H2 y => by
      obtain ⟨rfl, c', hc, rfl⟩ := y
      have : cs.toArray[i]? = some c := by simpa using q1
      rw [show (Str.mk cs.toArray).cps = cs.toArray from rfl, this] at hc; cases hc
      exact ⟨Ext.refl, S, .str [c]⟩⟩
  stop := fun i ι' H' M l e S q hl => by
    have q : some (cs.map fun c => D.str [c]).length = some l := q
    cases q
    show cs.toArray.size ≤ i
    rw [List.size_toArray]; simpa using hl
theorem rangeL_get : ∀ (n : Nat) (lo : Int) (i : Nat), i < n → (rangeL lo n)[i]? = some (.int (lo + i))
  | 0, _, _, h => absurd h (Nat.not_lt_zero _)
  | n + 1, lo, 0, _ => by simp [rangeL]
  | n + 1, lo, i + 1, h => by
    show (rangeL (lo + 1) n)[i]? = _
    rw [rangeL_get n (lo + 1) i (Nat.lt_of_succ_lt_succ h)]
    congr 2
    omega
theorem rangeL_len : ∀ (n : Nat) (lo : Int), (rangeL lo n).length = n
  | 0, _ => rfl
  | n + 1, lo => by
    show (rangeL (lo + 1) n).length + 1 = n + 1
    rw [rangeL_len n (lo + 1)]
theorem yl_range {K : PySem.W.Frag} {ι : List Addr} {H : Hp} {lo : Int} {n : Nat} : Yl K ι H (Itr lo n) (.st (rangeL lo n)) where
  go := fun i ι' H' M d e S q => by
    have q : (rangeL lo n)[i]? = some d := q
    have hi : i < n := by
      have := (List.getElem?_eq_some_iff.mp q).1
      rwa [rangeL_len] at this
    rw [rangeL_get n lo i hi] at q; cases q
    exact ⟨hi, fun x H2 y => by
      obtain ⟨rfl, rfl⟩ := y
      exact ⟨Ext.refl, S, .int _⟩⟩
  stop := fun i ι' H' M l e S q hl => by
    have q : some (rangeL lo n).length = some l := q
    cases q
    show n ≤ i
    rwa [rangeL_len] at hl
section
variable {G : GX} {X : Cx} {W : WX} {a b c tg : Expr} {f g k : Env → Md Rv} {pos p : Pos} {rest : List Expr}
/-- a walk over what a term comes to -/
def sSeq (f : Env → Md Rv) : Env → Md Itv := fun env => bnd (f env) fun x => opt (asIt x)
theorem di_seq (ha : DE G X W a f) : DI G X W tg a (sSeq f) := ⟨fun pins s σ H R I ⟨ι, env, M, rs, S, go⟩ => by
  have go := GoX.bnd go
  cases e : f env M with
  | stuck => rw [e] at go; exact False.elim go
  | exc c p M1 =>
    rw [e] at go
    exact (pi_list (tg := tg) ha).run pins s σ H R I ⟨ι, env, M, rs, S, by rw [e]; exact go⟩
  | ok r M1 =>
    rw [e] at go
    obtain ⟨iv, e2, q⟩ := GoX.opt go
    have back : ∀ {Q' : VK}, FinE X.K ι H Q' r M1 → liftE G X.K W f σ H Q' := fun h => ⟨ι, env, M, rs, S, by rw [e]; exact h⟩
    unfold asIt at e2
    cases r with
    | l ds =>
      cases e2
      refine (pi_list (tg := tg) ha).run pins s σ H R I (back fun ι1 v1 H1 e1 rr1 S1 => ?_)
      obtain ⟨x, vs, rfl, h1, h2, h3, h4⟩ := rr1
      exact ⟨x, rfl, ⟨vs, SqL.of h1⟩, q ι1 H1 _ e1 S1 (yl_list (fun ι' H' e' => SqL.of (e'.out x _ h1 h3).1) h4)⟩
    | d d =>
      cases d with
      | rl ds =>
        cases e2
        refine (pi_list (tg := tg) ha).run pins s σ H R I (back fun ι1 v1 H1 e1 rr1 S1 => ?_)
        cases (show Rep X.K ι1 H1 v1 (.rl ds) from rr1) with
        | rl h1 h2 => exact ⟨_, rfl, ⟨_, h1.sq⟩, q ι1 H1 _ e1 S1 (yl_list (fun ι' H' e' => (e'.fz _ _ h1).sq) h2)⟩
      | tup ds =>
        cases e2
        refine (pi_tup (tg := tg) ha).run pins s σ H R I (back fun ι1 v1 H1 e1 rr1 S1 => ?_)
        cases (show Rep X.K ι1 H1 v1 (.tup ds) from rr1) with
        | tup h1 h2 => exact ⟨_, rfl, ⟨_, h1⟩, q ι1 H1 _ e1 S1 (yl_tup h1 h2)⟩
      | str cs =>
        have e2 : (if cs.length ≤ line then some (Itv.st (cs.map fun c => .str [c])) else none) = some iv := e2
        by_cases hl : cs.length ≤ line
        · rw [if_pos hl] at e2; cases e2
          refine (pi_str (tg := tg) ha).run pins s σ H R I (back fun ι1 v1 H1 e1 rr1 S1 => ?_)
          exact ⟨_, Rep.str_of rr1, q ι1 H1 _ e1 S1 yl_str⟩
        · rw [if_neg hl] at e2; cases e2
      | ref n =>
        cases e2
        refine (pi_list (tg := tg) ha).run pins s σ H R I (back fun ι1 v1 H1 e1 rr1 S1 => ?_)
        cases (show Rep X.K ι1 H1 v1 (.ref n) from rr1) with
        | ref h1 =>
          have hn : n < M1.length := by rw [← S1.len]; exact (List.getElem?_eq_some_iff.mp h1).1
          have ro := S1.ob n _ _ h1 (List.getElem?_eq_getElem hn)
          generalize M1[n] = o at ro
          cases o with
          | lst es => obtain ⟨vs, g1, _⟩ := ro; exact ⟨_, rfl, ⟨vs, SqL.of g1⟩, q ι1 H1 _ e1 S1 (yl_one h1)⟩
      | _ => cases e2⟩
def sRng (t : Env → Md (List Rv)) : Env → Md Itv := fun env => bnd (t env) fun xs => opt (rangeIt xs)
theorem small62_of {i : Int} (h : small62 i = true) : -(2 ^ 62) ≤ i ∧ i < 2 ^ 62 := by
  obtain ⟨h1, h2⟩ := Bool.and_eq_true_iff.mp h
  exact ⟨of_decide_eq_true h1, of_decide_eq_true h2⟩
theorem di_rng1 {t : Env → Md (List Rv)} (hg : Gl X "range") (hm : X.mg "range" = none) (ha : DR G X W [a] t) (hs : starEach [a] X.env = [(false, eval a X.env)]) (h1 : ∀ env M xs M', t env M = .ok xs M' → xs.length = 1) :
    DI G X W tg (.Call (.Name "range" p) [a] [] pos) (sRng t) := ⟨fun pins s σ H R I ⟨ι, env, M, rs, S, go⟩ => by
  refine (pi_range1 (tg := tg) hg hm ha hs).run pins s σ H R I ⟨ι, env, M, rs, S, ?_⟩
  have go := GoX.bnd go
  cases e : t env M with
  | stuck => rw [e] at go; exact False.elim go
  | exc c p M1 => rw [e] at go; exact go
  | ok xs M1 =>
    rw [e] at go
    obtain ⟨iv, e2, q⟩ := GoX.opt go
    have hl := h1 env M xs M1 e
    match xs, hl, e2 with
    | [.d (.int j)], _, e2 =>
      intro ι1 vs H1 e1 rr S1
      have e2 : (if small62 j = true then some (Itv.st (rangeL 0 j.toNat)) else none) = some iv := e2
      by_cases hj : small62 j = true
      · rw [if_pos hj] at e2; cases e2
        obtain ⟨v, H₁, rfl, hx⟩ := rr.one
        obtain ⟨l1, l2⟩ := small62_of hj
        exact ⟨j, by rw [Rep.int_of hx], l1, l2, q ι1 H1 _ e1 S1 yl_range⟩
      · rw [if_neg hj] at e2; cases e2⟩
theorem di_rng2 {t : Env → Md (List Rv)} (hg : Gl X "range") (hm : X.mg "range" = none) (ha : DR G X W [a, b] t) (hs : starEach [a, b] X.env = [(false, eval a X.env), (false, eval b X.env)]) (hs2 : starEach [b] X.env = [(false, eval b X.env)]) (h1 : ∀ env M xs M', t env M = .ok xs M' → xs.length = 2) :
    DI G X W tg (.Call (.Name "range" p) [a, b] [] pos) (sRng t) := ⟨fun pins s σ H R I ⟨ι, env, M, rs, S, go⟩ => by
  refine (pi_range2 (tg := tg) hg hm ha hs hs2).run pins s σ H R I ⟨ι, env, M, rs, S, ?_⟩
  have go := GoX.bnd go
  cases e : t env M with
  | stuck => rw [e] at go; exact False.elim go
  | exc c p M1 => rw [e] at go; exact go
  | ok xs M1 =>
    rw [e] at go
    obtain ⟨iv, e2, q⟩ := GoX.opt go
    have hl := h1 env M xs M1 e
    match xs, hl, e2 with
    | [.d (.int i), .d (.int j)], _, e2 =>
      intro ι1 vs H1 e1 rr S1
      have e2 : (if (small62 i && small62 j) = true then some (Itv.st (rangeL i (j - i).toNat)) else none) = some iv := e2
      by_cases hj : (small62 i && small62 j) = true
      · rw [if_pos hj] at e2; cases e2
        obtain ⟨v, w, H₁, H₂, rfl, hx, hy⟩ := rr.two
        obtain ⟨z1, z2⟩ := Bool.and_eq_true_iff.mp hj
        obtain ⟨l1, l2⟩ := small62_of z1
        obtain ⟨l3, l4⟩ := small62_of z2
        exact ⟨i, j, by rw [Rep.int_of hx, Rep.int_of hy], ⟨l1, l2, l3, l4⟩, q ι1 H1 _ e1 S1 yl_range⟩
      · rw [if_neg hj] at e2; cases e2⟩
end
end Q
end

section
set_option Elab.async false
set_option linter.all false
set_option maxRecDepth 100000
set_option maxHeartbeats 4000000
namespace Q
open PySem PySem.Spec PyProof.Rows L2
theorem enumFrom_get : ∀ (ds : List D) (k i : Nat), (enumFrom k ds)[i]? = (ds[i]?).map fun d => .tup [.int ((k + i : Nat) : Int), d]
  | [], _, _ => rfl
  | d :: ds, k, 0 => rfl
  | d :: ds, k, i + 1 => by
    show (enumFrom (k + 1) ds)[i]? = (ds[i]?).map _
    rw [enumFrom_get ds (k + 1) i]
    have : k + 1 + i = k + (i + 1) := by omega
    rw [this]
theorem enumFrom_len : ∀ (ds : List D) (k : Nat), (enumFrom k ds).length = ds.length
  | [], _ => rfl
  | d :: ds, k => by
    show (enumFrom (k + 1) ds).length + 1 = ds.length + 1
    rw [enumFrom_len ds (k + 1)]
def pairO (x y : Option D) : Option D := match x, y with
  | some x, some y => some (.tup [x, y])
  | _, _ => none
theorem zipD_get : ∀ (a b : List D) (i : Nat), (zipD a b)[i]? = pairO a[i]? b[i]?
  | [], b, i => by cases b <;> simp [zipD, pairO]
  | a :: as, [], i => by
    cases h : (a :: as)[i]? <;> simp [zipD, pairO]
  | a :: as, b :: bs, 0 => by simp [zipD, pairO]
  | a :: as, b :: bs, i + 1 => by
    show (zipD as bs)[i]? = _
    rw [zipD_get as bs i]
    simp
theorem zipD_len : ∀ (a b : List D), (zipD a b).length = min a.length b.length
  | [], b => by cases b <;> simp [zipD]
  | a :: as, [] => by simp [zipD]
  | a :: as, b :: bs => by
    show (zipD as bs).length + 1 = min (as.length + 1) (bs.length + 1)
    rw [zipD_len as bs]; omega
section
variable {K : PySem.W.Frag} {ι : List Addr} {H : Hp} {M : Ar}
/-- a new tuple handed out -/
theorem new_pair {T : Addr} {x y : V} {d e : D} (S : Sim K ι H M) (hT : H T = none) (hx : Rep K ι H x d) (hy : Rep K ι H y e) : Ext K ι H ι (upd H T (.tup [x, y])) ∧ Sim K ι (upd H T (.tup [x, y])) M ∧ Rep K ι (upd H T (.tup [x, y])) (.ref T) (.tup [d, e]) := by
  have ex : Ext K ι H ι (upd H T (.tup [x, y])) := Ext.new hT
  exact ⟨ex, S.new hT, .tup (SqT.of upd_same) (.cons (hx.ext ex) (.cons (hy.ext ex) .nil))⟩
theorem yl_enum {a : Addr} {iv : Itv} (h : ∀ ι' H' M, Ext K ι H ι' H' → Sim K ι' H' M → ∀ i, (∀ d, itNth M i iv = some d → ∃ vs v e, SqL K H' a vs ∧ vs[i]? = some v ∧ Rep K ι' H' v e ∧ d = .tup [.int (i : Nat), e]) ∧ ∀ l, itLen M iv = some l → ∃ vs, SqL K H' a vs ∧ vs.length = l) : Yl K ι H (Ite K a) iv where
  go := fun i ι' H' M d e S q => by
    obtain ⟨vs, v, u, h1, h2, h3, rfl⟩ := (h ι' H' M e S i).1 d q
    exact ⟨⟨vs, v, h1, h2⟩, fun x H2 y => by
      obtain ⟨T, x', rfl, hT, rfl, y⟩ := y
      have := y vs h1
      rw [h2] at this; cases this
      exact new_pair S hT (.int _) h3⟩
  stop := fun i ι' H' M l e S q hl => by
    obtain ⟨vs, h1, h2⟩ := (h ι' H' M e S i).2 l q
    exact ⟨vs, h1, by omega⟩
/-- where a source's items are read -/
structure SrcAt (K : PySem.W.Frag) (ι : List Addr) (H : Hp) (t : Bool) (a : Addr) (s : Src) : Prop where
  all : ∀ ι' H' M ds, Ext K ι H ι' H' → Sim K ι' H' M → srcAll M s = some ds → ∃ vs, (if t = true then SqT K H' a vs else SqL K H' a vs) ∧ Reps K ι' H' vs ds
theorem srcAt_of {v : V} {r : Rv} {s : Src} {H₁ : Hp} (S : Sim K ι H M) (rr : RepR K H₁ ι H v r) (h : srcOf r = some s) : ∃ a, v = .ref a ∧ SrcAt K ι H s.isT a s := by
  cases r with
  | l ds =>
    cases h
    obtain ⟨a, vs, rfl, h1, h2, h3, h4⟩ := rr
    exact ⟨a, rfl, ⟨fun ι' H' M ds' e S' q => by cases q; exact ⟨vs, SqL.of (e.out a _ h1 h3).1, h4.ext e⟩⟩⟩
  | d d =>
    cases d with
    | tup ds =>
      cases h
      cases (show Rep K ι H v (.tup ds) from rr) with
      | tup h1 h2 => exact ⟨_, rfl, ⟨fun ι' H' M ds' e S' q => by cases q; exact ⟨_, e.tup _ _ h1, h2.ext e⟩⟩⟩
    | rl ds =>
      cases h
      cases (show Rep K ι H v (.rl ds) from rr) with
      | rl h1 h2 => exact ⟨_, rfl, ⟨fun ι' H' M ds' e S' q => by cases q; exact ⟨_, (e.fz _ _ h1).sq, h2.ext e⟩⟩⟩
    | ref n =>
      cases h
      cases (show Rep K ι H v (.ref n) from rr) with
      | ref h1 => exact ⟨_, rfl, ⟨fun ι' H' M ds' e S' q => by
          obtain ⟨b, hb, vs, g1, g2⟩ := S'.look (lstAt_some (show lstAt M n = some ds' from q))
          rw [e.pre n _ h1] at hb; cases hb
          exact ⟨vs, SqL.of g1, g2⟩⟩⟩
    | _ => cases h
/-- both sources told at once -/
theorem zip_nth {M : Ar} {a b : Src} {iv : Itv} (hv : iv = .zip a b ∨ ∃ t x u y, a = .st t x ∧ b = .st u y ∧ iv = .st (zipD x y)) :
    (∀ i d, itNth M i iv = some d → ∃ xs ys e f, srcAll M a = some xs ∧ srcAll M b = some ys ∧ xs[i]? = some e ∧ ys[i]? = some f ∧ d = .tup [e, f]) ∧
    ∀ l, itLen M iv = some l → ∃ xs ys, srcAll M a = some xs ∧ srcAll M b = some ys ∧ l = min xs.length ys.length := by
  rcases hv with rfl | ⟨t, x, u, y, rfl, rfl, rfl⟩
  · refine ⟨fun i d q => ?_, fun l q => ?_⟩
    · have q : (match (srcAll M a).bind (·[i]?), (srcAll M b).bind (·[i]?) with | some x, some y => some (D.tup [x, y]) | _, _ => none) = some d := q
      cases e1 : (srcAll M a).bind (·[i]?) with
      | none => rw [e1] at q; cases q
      | some e =>
        rw [e1] at q
        cases e2 : (srcAll M b).bind (·[i]?) with
        | none => rw [e2] at q; cases q
        | some f =>
          rw [e2] at q; cases q
          obtain ⟨xs, g1, g2⟩ := bind_some e1
          obtain ⟨ys, g3, g4⟩ := bind_some e2
          exact ⟨xs, ys, e, f, g1, g3, g2, g4, rfl⟩
    · have q : (match srcAll M a, srcAll M b with | some x, some y => some (min x.length y.length) | _, _ => none) = some l := q
      cases e1 : srcAll M a with
      | none => rw [e1] at q; cases q
      | some xs =>
        rw [e1] at q
        cases e2 : srcAll M b with
        | none => rw [e2] at q; cases q
        | some ys => rw [e2] at q; cases q; exact ⟨xs, ys, rfl, rfl, rfl⟩
  · refine ⟨fun i d q => ?_, fun l q => ?_⟩
    · have q : (zipD x y)[i]? = some d := q
      rw [zipD_get] at q
      unfold pairO at q
      cases e1 : x[i]? with
      | none => rw [e1] at q; cases q
      | some e =>
        rw [e1] at q
        cases e2 : y[i]? with
        | none => rw [e2] at q; cases q
        | some f => rw [e2] at q; cases q; exact ⟨x, y, e, f, rfl, rfl, e1, e2, rfl⟩
    · have q : some (zipD x y).length = some l := q
      cases q
      exact ⟨x, y, rfl, rfl, zipD_len x y⟩
end
section
variable {G : GX} {X : Cx} {W : WX} {a b c tg : Expr} {f g k : Env → Md Rv} {pos p : Pos} {rest : List Expr}
def sEnum (f : Env → Md Rv) : Env → Md Itv := fun env => bnd (f env) fun x => opt (enumIt x)
def sZip (f g : Env → Md Rv) : Env → Md Itv := fun env => bnd (f env) fun x => bnd (g env) fun y => opt (zipIt x y)
theorem de_one (ha : DE G X W a f) (hs : starEach (a :: []) X.env = (false, eval a X.env) :: starEach [] X.env) : PA X [a] (tCons (liftE G X.K W f) tNil) := pa_cons ha pa_nil hs
theorem di_enum {elts : List Expr} {kk : Nat} {tpos : Pos} (hg : Gl X "enumerate") (hm : X.mg "enumerate" = none) (ha : DE G X W a f) (hs : starEach [a] X.env = [(false, eval a X.env)]) :
    DI G X W (.Tuple elts kk tpos) (.Call (.Name "enumerate" p) [a] [] pos) (sEnum f) := ⟨fun pins s σ H R I ⟨ι, env, M, rs, S, go⟩ => by
  refine (pi_enum hg hm (de_one ha hs) hs).run pins s σ H R I ⟨ι, env, M, rs, S, go.bnd.mono fun r1 M1 h1 ι1 v1 H1 e1 rr1 S1 => ?_⟩
  obtain ⟨iv, e2, q⟩ := h1.opt
  have stat : ∀ {x vs ds}, iv = .st (enumFrom 0 ds) → (∀ ι' H', Ext X.K ι1 H1 ι' H' → SqL X.K H' x vs) → Reps X.K ι1 H1 vs ds → Yl X.K ι1 H1 (Ite X.K x) iv := fun {x vs ds} e hq rp => yl_enum fun ι' H' M' e' S' i => by
    subst e
    refine ⟨fun d q => ?_, fun l q => ?_⟩
    · have q : (enumFrom 0 ds)[i]? = some d := q
      rw [enumFrom_get] at q
      obtain ⟨u, q1, rfl⟩ := Option.map_eq_some_iff.mp q
      obtain ⟨v, g1, g2⟩ := (rp.ext e').get q1
      exact ⟨vs, v, u, hq ι' H' e', g1, g2, by rw [Nat.zero_add]⟩
    · have q : some (enumFrom 0 ds).length = some l := q
      cases q
      exact ⟨vs, hq ι' H' e', by rw [enumFrom_len, rp.length]⟩
  unfold enumIt at e2
  cases r1 with
  | l ds =>
    cases e2
    obtain ⟨x, vs, rfl, g1, g2, g3, g4⟩ := rr1
    exact ⟨x, vs, rfl, SqL.of g1, q ι1 H1 _ e1 S1 (stat rfl (fun ι' H' e' => SqL.of (e'.out x _ g1 g3).1) g4)⟩
  | d d =>
    cases d with
    | rl ds =>
      cases e2
      cases (show Rep X.K ι1 H1 v1 (.rl ds) from rr1) with
      | rl g1 g2 => exact ⟨_, _, rfl, g1.sq, q ι1 H1 _ e1 S1 (stat rfl (fun ι' H' e' => (e'.fz _ _ g1).sq) g2)⟩
    | ref n =>
      cases e2
      cases (show Rep X.K ι1 H1 v1 (.ref n) from rr1) with
      | ref g1 =>
        have hn : n < M1.length := by rw [← S1.len]; exact (List.getElem?_eq_some_iff.mp g1).1
        have ro := S1.ob n _ _ g1 (List.getElem?_eq_getElem hn)
        generalize M1[n] = o at ro
        cases o with
        | lst es =>
          obtain ⟨vs, u1, _⟩ := ro
          refine ⟨_, vs, rfl, SqL.of u1, q ι1 H1 _ e1 S1 (yl_enum fun ι' H' M' e' S' i => ⟨fun d q => ?_, fun l q => ?_⟩)⟩
          · obtain ⟨u, q1, rfl⟩ := Option.map_eq_some_iff.mp (show ((lstAt M' n).bind (·[i]?)).map (fun d => D.tup [.int (i : Nat), d]) = some d from q)
            obtain ⟨ds, q2, q3⟩ := bind_some q1
            obtain ⟨b, hb, ws, w1, w2⟩ := S'.look (lstAt_some q2)
            rw [e'.pre n _ g1] at hb; cases hb
            obtain ⟨v, z1, z2⟩ := w2.get q3
            exact ⟨ws, v, u, SqL.of w1, z1, z2, rfl⟩
          · obtain ⟨ds, q2, rfl⟩ := Option.map_eq_some_iff.mp (show (lstAt M' n).map (·.length) = some l from q)
            obtain ⟨b, hb, ws, w1, w2⟩ := S'.look (lstAt_some q2)
            rw [e'.pre n _ g1] at hb; cases hb
            exact ⟨ws, SqL.of w1, w2.length⟩
    | _ => cases e2⟩
theorem di_zip {elts : List Expr} {kk : Nat} {tpos : Pos} (hg : Gl X "zip") (hm : X.mg "zip" = none) (ha : DE G X W a f) (hb : DE G X W b g) (hs : starEach [a, b] X.env = (false, eval a X.env) :: starEach [b] X.env) (hs2 : starEach [b] X.env = [(false, eval b X.env)]) :
    DI G X W (.Tuple elts kk tpos) (.Call (.Name "zip" p) [a, b] [] pos) (sZip f g) := ⟨fun pins s σ H R I ⟨ι, env, M, rs, S, go⟩ => by
  refine (RZ.pi_zipA hg hm (pa_cons ha (pa_cons hb pa_nil hs2) hs) hs (by rw [hs2]; rfl)).run pins s σ H R I ⟨ι, env, M, rs, S, go.bnd.mono fun r1 M1 h1 ι1 v1 H1 e1 rr1 S1 => ⟨ι1, env, M1, rs.ext e1, S1, (h1.bnd.later e1).mono fun r2 M2 h2 ι2 v2 H2 e2 rr2 S2 => ?_⟩⟩
  obtain ⟨iv, e3, q⟩ := h2.opt
  unfold zipIt at e3
  cases s1 : srcOf r1 with
  | none => rw [s1] at e3; cases e3
  | some a =>
    rw [s1] at e3
    cases s2 : srcOf r2 with
    | none => rw [s2] at e3; cases e3
    | some b =>
      rw [s2] at e3
      simp only at e3
      by_cases hk : (a.isT == b.isT) = true
      · rw [if_pos hk] at e3
        have e3 := Option.some.inj e3
        have hv : iv = .zip a b ∨ ∃ t x u y, a = .st t x ∧ b = .st u y ∧ iv = .st (zipD x y) := by
          subst e3
          cases a with
          | rf n => exact .inl rfl
          | st t x =>
            cases b with
            | rf n => exact .inl rfl
            | st u y => exact .inr ⟨t, x, u, y, rfl, rfl, rfl⟩
        obtain ⟨A, rfl, sa⟩ := srcAt_of S2 (rr1.ext e2) s1
        obtain ⟨B, rfl, sb⟩ := srcAt_of S2 rr2 s2
        -- both are there at the beginning
        have there : ∀ {r : Rv} {s : Src} {v : V} {H₁ : Hp}, RepR X.K H₁ ι2 H2 v r → srcOf r = some s → ∃ ds, srcAll M2 s = some ds := fun {r s v H₁} rr e => by
          cases r with
          | l ds => cases e; exact ⟨_, rfl⟩
          | d d =>
            cases d with
            | tup ds => cases e; exact ⟨_, rfl⟩
            | rl ds => cases e; exact ⟨_, rfl⟩
            | ref n =>
              cases e
              cases (show Rep X.K ι2 H2 v (.ref n) from rr) with
              | ref h1 =>
                have hn : n < M2.length := by rw [← S2.len]; exact (List.getElem?_eq_some_iff.mp h1).1
                show ∃ ds, lstAt M2 n = some ds
                unfold lstAt
                rw [List.getElem?_eq_getElem hn]
                cases M2[n] with
                | lst es => exact ⟨es, rfl⟩
            | _ => cases e
        obtain ⟨xs, hx⟩ := there (rr1.ext e2) s1
        obtain ⟨ys, hy⟩ := there rr2 s2
        obtain ⟨vs, qx, _⟩ := sa.all ι2 H2 M2 xs Ext.refl S2 hx
        obtain ⟨ws, qy, _⟩ := sb.all ι2 H2 M2 ys Ext.refl S2 hy
        have ek : b.isT = a.isT := (beq_iff_eq.mp hk).symm
        rw [ek] at sb qy
        refine ⟨A, B, vs, ws, rfl, ?_⟩
        cases ht : a.isT with
        | false =>
          rw [ht] at sa sb qx qy
          refine .inl ⟨qx, qy, q ι2 H2 _ (e1.trans e2) S2 ⟨fun i ι' H' M' d e S' q => ?_, fun i ι' H' M' l e S' q hl => ?_⟩⟩
          · obtain ⟨xs, ys, u, w, g1, g2, g3, g4, rfl⟩ := (zip_nth hv).1 i d q
            obtain ⟨vs, z1, z2⟩ := sa.all ι' H' M' xs e S' g1
            obtain ⟨ws, z3, z4⟩ := sb.all ι' H' M' ys e S' g2
            obtain ⟨v, t1, t2⟩ := z2.get g3
            obtain ⟨v', t3, t4⟩ := z4.get g4
            refine ⟨⟨vs, ws, v, v', z1, z3, t1, t3⟩, fun x H3 y => ?_⟩
            obtain ⟨T, x', y', rfl, hT, rfl, y1, y2⟩ := y
            have y1 := y1 vs z1
            have y2 := y2 ws z3
            rw [t1] at y1; cases y1
            rw [t3] at y2; cases y2
            exact new_pair S' hT t2 t4
          · obtain ⟨xs, ys, g1, g2, rfl⟩ := (zip_nth hv).2 l q
            obtain ⟨vs, z1, z2⟩ := sa.all ι' H' M' xs e S' g1
            obtain ⟨ws, z3, z4⟩ := sb.all ι' H' M' ys e S' g2
            exact ⟨vs, ws, z1, z3, by rw [z2.length, z4.length]; omega⟩
        | true =>
          rw [ht] at sa sb qx qy
          refine .inr ⟨qx, qy, q ι2 H2 _ (e1.trans e2) S2 ⟨fun i ι' H' M' d e S' q => ?_, fun i ι' H' M' l e S' q hl => ?_⟩⟩
          · obtain ⟨xs, ys, u, w, g1, g2, g3, g4, rfl⟩ := (zip_nth hv).1 i d q
            obtain ⟨vs, z1, z2⟩ := sa.all ι' H' M' xs e S' g1
            obtain ⟨ws, z3, z4⟩ := sb.all ι' H' M' ys e S' g2
            obtain ⟨v, t1, t2⟩ := z2.get g3
            obtain ⟨v', t3, t4⟩ := z4.get g4
            refine ⟨⟨vs, ws, v, v', z1, z3, t1, t3⟩, fun x H3 y => ?_⟩
            obtain ⟨T, x', y', rfl, hT, rfl, y1, y2⟩ := y
            have y1 := y1 vs z1
            have y2 := y2 ws z3
            rw [t1] at y1; cases y1
            rw [t3] at y2; cases y2
            exact new_pair S' hT t2 t4
          · obtain ⟨xs, ys, g1, g2, rfl⟩ := (zip_nth hv).2 l q
            obtain ⟨vs, z1, z2⟩ := sa.all ι' H' M' xs e S' g1
            obtain ⟨ws, z3, z4⟩ := sb.all ι' H' M' ys e S' g2
            exact ⟨vs, ws, z1, z3, by rw [z2.length, z4.length]; omega⟩
      · rw [if_neg hk] at e3; cases e3⟩

/-! ### a test: a if c else b -/
theorem pt_ite {tc ta tb : TT} (hc : PT X c tc) (ha : PT X a ta) (hb : PT X b tb) : PT X (.IfExp c a b pos) (fun σ H Q => tc σ H fun d H1 => if d = true then ta σ H1 Q else tb σ H1 Q) := ⟨fun pins s σ H Q I h => by
  refine PyProof.Rows.isTrue_IfExp (thn (hc.run pins s σ H _ I h) fun d s1 ⟨H1, I1, q1⟩ => ?_)
  cases d with
  | true => exact ha.run pins s1 σ H1 Q I1 q1
  | false => exact hb.run pins s1 σ H1 Q I1 q1⟩
theorem dt_ite (hc : DT G X W c (asBool k)) (ha : DT G X W a (asBool f)) (hb : DT G X W b (asBool g)) : DT G X W (.IfExp c a b pos) (asBool (sIte k f g)) := (pt_ite hc ha hb).weak fun σ H Q ⟨ι, env, M, rs, S, go⟩ => by
  refine ⟨ι, env, M, rs, S, (GoX.bnd go).bnd.mono fun b1 M1 h1 ι1 H1 e1 S1 => ?_⟩
  have put : ∀ {u : Env → Md Rv}, GoX G X.K W σ ι H (u env M1) (fun r M2 => GoX G X.K W σ ι H (asB r M2) (FinB X.K ι H Q)) → liftB G X.K W (asBool u) σ H1 Q := fun {u} h => by
    refine ⟨ι1, env, M1, rs.ext e1, S1, ?_⟩
    have h2 : GoX G X.K W σ ι H (asBool u env M1) (FinB X.K ι H Q) := by
      show GoX G X.K W σ ι H (bnd (u env) asB M1) _
      unfold bnd
      cases e : u env M1 with
      | ok r M2 => rw [e] at h; exact h
      | exc c p M2 => rw [e] at h; exact h
      | stuck => rw [e] at h; exact h
    exact (h2.later e1).mono fun b2 M2 h3 ι2 H2 e2 S2 => h3 ι2 H2 (e1.trans e2) S2
  cases b1 with
  | true => exact put h1
  | false => exact put h1
end
end Q
end

section
set_option Elab.async false
set_option linter.all false
set_option maxRecDepth 100000
set_option maxHeartbeats 4000000
/-! Targets, comprehensions. -/
namespace Q
open PySem PySem.Spec PyProof.Rows L2

mutual
def Tg.slots : Tg → List Nat
  | .nm i => [i]
  | .tp gs => gs.slots
def Tgs.slots : Tgs → List Nat
  | .nil => []
  | .cons g gs => g.slots ++ gs.slots
end
/-- only these slots differ -/
def Only (L : List Nat) (σ σ' : L2.St) : Prop := σ'.length = σ.length ∧ ∀ i, i ∉ L → σ'[i]? = σ[i]?
theorem Only.refl {L : List Nat} {σ : L2.St} : Only L σ σ := ⟨rfl, fun _ _ => rfl⟩
theorem wipe_get {σ : L2.St} : ∀ {vs : List Nat} {i : Nat}, (L2.wipe σ vs)[i]? = if i ∈ vs then (if i < σ.length then some none else none) else σ[i]?
  | [], i => by simp [L2.wipe]
  | v :: vs, i => by
    unfold L2.wipe
    by_cases e : v = i
    · subst e
      rw [if_pos List.mem_cons_self]
      by_cases hl : v < σ.length
      · rw [List.getElem?_set_self (by rw [L2.wipe_length]; exact hl), if_pos hl]
      · rw [List.getElem?_eq_none (by rw [List.length_set, L2.wipe_length]; omega), if_neg hl]
    · rw [List.getElem?_set_ne e, wipe_get]
      by_cases hi : i ∈ vs
      · rw [if_pos hi, if_pos (List.mem_cons_of_mem _ hi)]
      · rw [if_neg hi, if_neg fun z => by rcases List.mem_cons.mp z with z | z; exact e z.symm; exact hi z]
theorem Only.wipe {L vs : List Nat} {σ σ' : L2.St} (h : Only L σ σ') (hs : ∀ i ∈ L, i ∈ vs) : L2.wipe σ' vs = L2.wipe σ vs := by
  apply List.ext_getElem?
  intro i
  rw [wipe_get, wipe_get, h.1]
  by_cases hi : i ∈ vs
  · rw [if_pos hi, if_pos hi]
  · rw [if_neg hi, if_neg hi, h.2 i fun z => hi (hs i z)]
section
variable {G : GX} {X : Cx} {W : WX}
def liftG (K : PySem.W.Frag) (g : Tg) : TG := fun v σ H Q => ∃ ι env d env', RepSt K ι H σ env ∧ Rep K ι H v d ∧ tgt g d env = some env' ∧ ∀ σ', RepSt K ι H σ' env' → Only g.slots σ σ' → Q σ' H
def liftGs (K : PySem.W.Frag) (g : Tgs) : TGs := fun vs σ H Q => ∃ ι env ds env', RepSt K ι H σ env ∧ Reps K ι H vs ds ∧ tgts g ds env = some env' ∧ ∀ σ', RepSt K ι H σ' env' → Only g.slots σ σ' → Q σ' H
theorem _root_.L2.PG.weak {X : Cx} {e : Expr} {t t' : TG} (h : PG X e t) (w : ∀ v σ H Q, σ.length = X.N.length → t' v σ H Q → t v σ H Q) : PG X e t' := ⟨fun pins s σ H v u Q I r q => h.run pins s σ H v u Q I r (w v σ H Q I.len q)⟩
theorem _root_.L2.PGs.weak {X : Cx} {e : List Expr} {t t' : TGs} (h : PGs X e t) (w : ∀ v σ H Q, σ.length = X.N.length → t' v σ H Q → t v σ H Q) : PGs X e t' := ⟨fun pins s σ H v u Q I r q => h.run pins s σ H v u Q I r (w v σ H Q I.len q)⟩
theorem dg_name {i : Nat} {x : Str} {pos : Pos} (hi : i < X.N.length) (h : PG X (.Name x pos) (gName i)) : PG X (.Name x pos) (liftG X.K (.nm i)) := h.weak fun v σ H Q hl ⟨ι, env, d, env', rs, r, e, q⟩ => by
  cases e
  exact q _ (rs.set r (by rw [hl]; exact hi)) ⟨by simp, fun j hj => List.getElem?_set_ne (fun z => hj (by simp [Tg.slots, z]))⟩
theorem dgs_nil : PGs X [] (liftGs X.K .nil) := pgs_nil.weak fun v σ H Q hl ⟨ι, env, ds, env', rs, r, e, q⟩ => by
  cases ds with
  | nil => cases e; cases r; exact ⟨rfl, q σ rs Only.refl⟩
  | cons _ _ => cases e
theorem dgs_cons {e : Expr} {es : List Expr} {g : Tg} {gs : Tgs} (h1 : PG X e (liftG X.K g)) (h2 : PGs X es (liftGs X.K gs)) (hs : (assignEach (e :: es) X.env).map (·.2) = assign e X.env :: (assignEach es X.env).map (·.2)) :
    PGs X (e :: es) (liftGs X.K (.cons g gs)) := (pgs_cons h1 h2 hs).weak fun v σ H Q hl ⟨ι, env, ds, env', rs, r, e, q⟩ => by
  cases ds with
  | nil => cases e
  | cons d ds =>
    cases r with
    | cons r rr =>
      have e : (match tgt g d env with | some env' => tgts gs ds env' | none => none) = some env' := e
      cases e1 : tgt g d env with
      | none => rw [e1] at e; cases e
      | some env1 =>
        rw [e1] at e
        exact ⟨_, _, rfl, ι, env, d, env1, rs, r, e1, fun σ1 rs1 o1 => ⟨ι, env1, ds, env', rs1, rr, e, fun σ2 rs2 o2 => q σ2 rs2 ⟨o2.1.trans o1.1, fun i hi => by
          have hi : i ∉ g.slots ++ gs.slots := hi
          rw [o2.2 i fun z => hi (List.mem_append_right _ z), o1.2 i fun z => hi (List.mem_append_left _ z)]⟩⟩⟩
def Tgs.count : Tgs → Nat
  | .nil => 0
  | .cons _ gs => gs.count + 1
theorem tgts_len : ∀ {gs : Tgs} {ds : List D} {env env' : Env}, tgts gs ds env = some env' → ds.length = gs.count
  | .nil, [], _, _, _ => rfl
  | .nil, _ :: _, _, _, h => by cases h
  | .cons g gs, [], _, _, h => by cases h
  | .cons g gs, d :: ds, env, env', h => by
    have h : (match tgt g d env with | some env' => tgts gs ds env' | none => none) = some env' := h
    cases e1 : tgt g d env with
    | none => rw [e1] at h; cases h
    | some env1 => rw [e1] at h; exact congrArg (· + 1) (tgts_len h)
theorem dg_tup {es : List Expr} {k : Nat} {gs : Tgs} {pos : Pos} (hc : X.calm = true) (h : PGs X es (liftGs X.K gs)) (hn : (assignEach es X.env).length = gs.count) (hst : (assignEach es X.env).findIdx? (·.1) = none) :
    PG X (.Tuple es k pos) (liftG X.K (.tp gs)) := (pg_tup hc h hn hst).weak fun v σ H Q hl ⟨ι, env, d, env', rs, r, e, q⟩ => by
  cases d with
  | tup ds =>
    obtain ⟨a, vs, rfl, h1, h2⟩ := Rep.tup_of r
    exact ⟨a, vs, rfl, h1, by rw [h2.length]; exact tgts_len e, ι, env, ds, env', rs, h2, e, q⟩
  | _ => cases e

/-! ### a comprehension -/
theorem GoX.noExc {α : Type} {K : PySem.W.Frag} {W' : WX} {σ σ' : L2.St} {ι ι' : List Addr} {H H' : Hp} {x : Md α} {M : Ar} {R : α → Ar → Prop} (h : GoX G K W σ ι H (noExc x M) R) : GoX G K W' σ' ι' H' (x M) R := by
  unfold Q.noExc at h
  cases e : x M with
  | ok a M1 => rw [e] at h; exact h
  | exc c p M1 => rw [e] at h; exact False.elim h
  | stuck => rw [e] at h; exact False.elim h
/-- the block's wish: nothing is raised -/
abbrev W0 : WX := fun _ _ _ _ => False
def turnF (own : List Nat) (g : Tg) (c e : Env → Md Rv) (env : Env) : D → Md (Option D) := fun d => match tgt g d (wipe env own) with
  | some env' => noExc (bnd (bnd (c env') asB) fun
    | true => bnd (bnd (e env') settle) fun y => ret (some y)
    | false => ret none)
  | none => stk
def sComp (own : List Nat) (it : Env → Md Itv) (g : Tg) (c e : Env → Md Rv) : Env → Md Rv := fun env => bnd (it env) fun iv => bnd (compAll (turnF own g c e env) iv) fun r => ret (.l r)
theorem compL_D (f : D → Md (Option D)) : ∀ (ds all : List D) (i : Nat) (acc : List D) (M : Ar), all.drop i = ds → compL f ds acc M = compD f (.st all) i ds.length acc M
  | [], all, i, acc, M, h => by
    have hl : all.length ≤ i := by
      have := congrArg List.length h
      simp at this; omega
    show Out.ok acc.reverse M = (match itLen M (.st all) with | some l => if l ≤ i then .ok acc.reverse M else .stuck | none => .stuck)
    show _ = (if all.length ≤ i then Out.ok acc.reverse M else .stuck)
    rw [if_pos hl]
  | x :: xs, all, i, acc, M, h => by
    have hx : all[i]? = some x := by
      have := congrArg (·[0]?) h
      simpa using this
    have hr : all.drop (i + 1) = xs := by
      have := congrArg List.tail h
      simpa using this
    show bnd (f x) _ M = (match itNth M i (.st all) with | some x => bnd (f x) _ M | none => .stuck)
    rw [show itNth M i (.st all) = some x from hx]
    show bnd (f x) _ M = bnd (f x) _ M
    unfold bnd
    cases f x M with
    | ok o M' =>
      cases o with
      | none => exact compL_D f xs all (i + 1) acc M' hr
      | some d =>
        show (if acc.length < line then compL f xs (d :: acc) else stk) M' = (if acc.length < line then compD f (.st all) (i + 1) xs.length (d :: acc) else stk) M'
        by_cases hl : acc.length < line
        · rw [if_pos hl, if_pos hl]; exact compL_D f xs all (i + 1) (d :: acc) M' hr
        · rw [if_neg hl, if_neg hl]
    | exc c p M' => rfl
    | stuck => rfl
theorem compAll_D {f : D → Md (Option D)} {iv : Itv} {M : Ar} : ∃ k, compAll f iv M = compD f iv 0 k [] M ∨ compAll f iv M = .stuck := by
  cases iv with
  | st ds => exact ⟨ds.length, .inl (compL_D f ds ds 0 [] M rfl)⟩
  | one n =>
    show ∃ k, (match itLen M (.one n) with | some k => compD f (.one n) 0 k [] M | none => .stuck) = _ ∨ (match itLen M (.one n) with | some k => compD f (.one n) 0 k [] M | none => .stuck) = _
    cases itLen M (.one n) with
    | none => exact ⟨0, .inr rfl⟩
    | some k => exact ⟨k, .inl rfl⟩
  | zip a b =>
    show ∃ k, (match itLen M (.zip a b) with | some k => compD f (.zip a b) 0 k [] M | none => .stuck) = _ ∨ (match itLen M (.zip a b) with | some k => compD f (.zip a b) 0 k [] M | none => .stuck) = _
    cases itLen M (.zip a b) with
    | none => exact ⟨0, .inr rfl⟩
    | some k => exact ⟨k, .inl rfl⟩
  | enum n =>
    show ∃ k, (match itLen M (.enum n) with | some k => compD f (.enum n) 0 k [] M | none => .stuck) = _ ∨ (match itLen M (.enum n) with | some k => compD f (.enum n) 0 k [] M | none => .stuck) = _
    cases itLen M (.enum n) with
    | none => exact ⟨0, .inr rfl⟩
    | some k => exact ⟨k, .inl rfl⟩
theorem Reps.snoc {K : PySem.W.Frag} {ι : List Addr} {H : Hp} {vs : List V} {ds : List D} {v : V} {d : D} (r : Reps K ι H vs ds.reverse) (h : Rep K ι H v d) : Reps K ι H (vs ++ [v]) (d :: ds).reverse := by
  rw [List.reverse_cons]
  exact r.append (.cons h .nil)
/-- the reading of the comprehension's term holds -/
theorem comp_weak {own : List Nat} {it : Env → Md Itv} {g : Tg} {c e : Env → Md Rv} (hg : ∀ i ∈ g.slots, i ∈ own) {tt : TT} (htt : ∀ σ H Q, liftB G X.K W0 (asBool c) σ H Q → tt σ H Q) {σ : L2.St} {H : Hp} {Q : VK} (h : liftE G X.K W (sComp own it g c e) σ H Q) :
    tLc (liftI G X.K W it) (liftG X.K g) tt (liftE G X.K W0 e) own σ H Q := by
  obtain ⟨ι, env, M, rs, S, go⟩ := h
  refine ⟨ι, env, M, rs, S, go.bnd.mono fun iv M1 h1 ι1 H1 J e1 S1 yl D0 hD => ?_⟩
  have h1 := GoX.bnd h1
  obtain ⟨k0, ek⟩ := @compAll_D (turnF own g c e env) iv M1
  rcases ek with ek | ek
  · rw [ek] at h1
    have nD : D0 ∉ ι1 := fun z => S1.ne z hD
    refine ⟨fun i m Hc => ∃ ιc Mc acc vsa, Ext X.K ι1 H1 ιc Hc ∧ Sim X.K ιc Hc Mc ∧ D0 ∉ ιc ∧ Hc D0 = some (.lst vsa) ∧ Reps X.K ιc Hc vsa acc.reverse ∧ GoX G X.K W σ ι H (compD (turnF own g c e env) iv i m acc Mc) (fun r M' => FinE X.K ι H Q (.l r) M'), ⟨k0, ι1, M1, [], [], Ext.new hD, S1.new hD, nD, upd_same, .nil, h1⟩, ?_⟩
    rintro i m Hc ⟨ιc, Mc, acc, vsa, ec, Sc, nDc, hDc, rpc, goc⟩
    cases m with
    | zero =>
      refine .inl ?_
      have goc : GoX G X.K W σ ι H (match itLen Mc iv with | some l => if l ≤ i then .ok acc.reverse Mc else .stuck | none => .stuck) (fun r M' => FinE X.K ι H Q (.l r) M') := goc
      cases el : itLen Mc iv with
      | none => rw [el] at goc; exact False.elim goc
      | some l =>
        rw [el] at goc
        simp only at goc
        by_cases hl : l ≤ i
        · rw [if_pos hl] at goc
          exact ⟨yl.stop i ιc Hc Mc l ec Sc el hl, goc ιc _ Hc (e1.trans ec) ⟨D0, vsa, rfl, hDc, e1.noneB hD, nDc, rpc⟩ Sc⟩
        · rw [if_neg hl] at goc; exact False.elim goc
    | succ m =>
      refine .inr ?_
      have goc : GoX G X.K W σ ι H (match itNth Mc i iv with
        | some x => bnd (turnF own g c e env x) (fun
          | some d => if acc.length < line then compD (turnF own g c e env) iv (i + 1) m (d :: acc) else stk
          | none => compD (turnF own g c e env) iv (i + 1) m acc) Mc
        | none => .stuck) (fun r M' => FinE X.K ι H Q (.l r) M') := goc
      cases en : itNth Mc i iv with
      | none => rw [en] at goc; exact False.elim goc
      | some d =>
        rw [en] at goc
        obtain ⟨jg, jy⟩ := yl.go i ιc Hc Mc d ec Sc en
        refine ⟨jg, _, fun H' w => ⟨m, Nat.lt_succ_self _, w⟩, fun x H' y => ?_⟩
        obtain ⟨ey, Sy, ry⟩ := jy x H' y
        have hDy := (ey.out D0 _ hDc nDc).1
        have gt := GoX.bnd goc
        unfold turnF at gt
        cases et : tgt g d (_root_.Q.wipe env own) with
        | none => rw [et] at gt; exact False.elim gt
        | some env1 =>
          rw [et] at gt
          have rs1 : RepSt X.K ιc H' (L2.wipe σ own) (_root_.Q.wipe env own) := (((rs.ext e1).ext ec).ext ey).wipe own
          refine ⟨ιc, _, d, env1, rs1, ry, et, fun σ2 rs2 o2 => ⟨?_, htt _ _ _ ?_⟩⟩
          · have := o2.wipe hg
            rw [this]
            apply List.ext_getElem?
            intro j
            rw [wipe_get, wipe_get, L2.wipe_length]
            by_cases hj : j ∈ own
            · rw [if_pos hj, if_pos hj]
            · simp only [if_neg hj, wipe_get]
          · have gc : GoX G X.K W0 σ2 ιc H' (bnd (bnd (c env1) asB) (fun
              | true => bnd (bnd (e env1) settle) fun y => ret (some y)
              | false => ret none) Mc) _ := GoX.noExc gt
            refine ⟨ιc, env1, Mc, rs2, Sy, gc.bnd.mono fun b Mb hb ιb Hb eb Sb => ?_⟩
            have ecb : Ext X.K ι1 H1 ιb Hb := ec.trans (ey.trans eb)
            have hDb := eb.out D0 _ hDy (ey.out D0 _ hDc nDc).2
            cases b with
            | false =>
              refine iteF ?_
              have hb : GoX G X.K W σ ι H (compD (turnF own g c e env) iv (i + 1) m acc Mb) (fun r M' => FinE X.K ι H Q (.l r) M') := hb
              exact ⟨ιb, Mb, acc, vsa, ecb, Sb, hDb.2, hDb.1, (rpc.ext ey).ext eb, hb⟩
            | true =>
              refine iteT ?_
              refine ⟨ιb, env1, Mb, rs2.ext eb, Sb, ((GoX.bnd hb).later eb).bnd.mono fun r Mr hr ιr v Hr er rr Sr => ?_⟩
              obtain ⟨u, ιu, Mu, hu, eu, ru, Su⟩ := settle_go hr er rr Sr
              have hDu := eu.out D0 _ hDb.1 hDb.2
              have rpu : Reps X.K ιu Hr vsa acc.reverse := ((rpc.ext ey).ext eb).ext eu
              have hu : GoX G X.K W σ ι H ((if acc.length < line then compD (turnF own g c e env) iv (i + 1) m (u :: acc) else stk) Mu) (fun r M' => FinE X.K ι H Q (.l r) M') := GoX.ret hu
              by_cases hl : acc.length < line
              · rw [if_pos hl] at hu
                refine ⟨vsa, hDu.1, ?_, ιu, Mu, u :: acc, vsa ++ [v], Ext.upd_l (ecb.trans eu) hD (by rw [hDu.1]; exact fun z => nomatch z), Su.upd_l hDu.1 hDu.2, hDu.2, upd_same, (Rep.upd_l hDu.1).2 (rpu.snoc ru), hu⟩
                have := rpu.length
                rw [List.length_reverse] at this
                rw [this]; exact Nat.lt_trans hl line_lt
              · rw [if_neg hl] at hu; exact False.elim hu
  · rw [ek] at h1; exact False.elim h1
end
end Q
end

section
set_option Elab.async false
set_option linter.all false
set_option maxRecDepth 100000
set_option maxHeartbeats 4000000
/-! Statements. -/
namespace Q
open PySem PySem.Spec PyProof.Rows L2
/-- a wish that asks nothing of the names -/
def Free (W : WX) : Prop := ∀ c d σ σ' H, W c d σ H → W c d σ' H
theorem GoX.to {α : Type} {G : GX} {K : PySem.W.Frag} {W : WX} (fw : Free W) {σ σ' : L2.St} {ι ι' : List Addr} {H H' : Hp} {x : Out α} {R : α → Ar → Prop} (h : GoX G K W σ ι H x R) (e : Ext K ι H ι' H') : GoX G K W σ' ι' H' x R := by
  cases x with
  | ok a M => exact h
  | exc c p M => exact fun ι'' cls oe H'' e' s q => fw _ _ _ _ _ (h ι'' cls oe H'' (e.trans e') s q)
  | stuck => exact h
def FinS (K : PySem.W.Frag) (ι : List Addr) (H : Hp) (D : Ends) : Fl → Ar → Prop
  | .nx env', M' => ∀ ι' σ' H', Ext K ι H ι' H' → RepSt K ι' H' σ' env' → Sim K ι' H' M' → D.nx σ' H'
  | .bk env', M' => ∀ ι' σ' H', Ext K ι H ι' H' → RepSt K ι' H' σ' env' → Sim K ι' H' M' → D.bk σ' H'
  | .ct env', M' => ∀ ι' σ' H', Ext K ι H ι' H' → RepSt K ι' H' σ' env' → Sim K ι' H' M' → D.ct σ' H'
  | .rt r, M' => ∀ ι' v H', Ext K ι H ι' H' → RepR K H ι' H' v r → Sim K ι' H' M' → D.rt v H'
def liftS (G : GX) (K : PySem.W.Frag) (W : WX) (f : Env → Md Fl) : TS := fun D σ H => ∃ ι env M, RepSt K ι H σ env ∧ Sim K ι H M ∧ GoX G K W σ ι H (f env M) (FinS K ι H D)
abbrev DS (G : GX) (X : Cx) (W : WX) (s : Stmt) (f : Env → Md Fl) : Prop := PS X s (liftS G X.K W f)
abbrev DSs (G : GX) (X : Cx) (W : WX) (s : List Stmt) (f : Env → Md Fl) : Prop := PSs X s (liftS G X.K W f)
section
variable {G : GX} {X : Cx} {W : WX} {a b c e tg : Expr} {f g k : Env → Md Rv} {pos p : Pos} {rest : List Stmt} {st : Stmt}
theorem dss_nil : DSs G X W [] fun env => ret (.nx env) := pss_nil.weak fun D σ H ⟨ι, env, M, rs, S, go⟩ => go ι σ H Ext.refl rs S
def sSeqS (s r : Env → Md Fl) : Env → Md Fl := fun env => bnd (s env) fun
  | .nx e => r e
  | f => ret f
theorem FinS.mono {K : PySem.W.Frag} {ι ι1 : List Addr} {H H1 : Hp} {D : Ends} {fl : Fl} {M : Ar} (h : FinS K ι H D fl M) (e : Ext K ι H ι1 H1) : FinS K ι1 H1 D fl M := by
  cases fl with
  | nx env => exact fun ι' σ' H' e' => h ι' σ' H' (e.trans e')
  | bk env => exact fun ι' σ' H' e' => h ι' σ' H' (e.trans e')
  | ct env => exact fun ι' σ' H' e' => h ι' σ' H' (e.trans e')
  | rt r => exact fun ι' v H' e' rr => h ι' v H' (e.trans e') (rr.back fun _ z => e.noneB z)
theorem dss_cons (fw : Free W) {s r : Env → Md Fl} (h1 : DS G X W st s) (h2 : DSs G X W rest r) : DSs G X W (st :: rest) (sSeqS s r) := (pss_cons h1 h2).weak fun D σ H ⟨ι, env, M, rs, S, go⟩ => by
  refine ⟨ι, env, M, rs, S, go.bnd.mono fun fl M1 h => ?_⟩
  cases fl with
  | nx env1 => exact fun ι1 σ1 H1 e1 rs1 S1 => ⟨ι1, env1, M1, rs1, S1, (GoX.to fw h e1).mono fun fl M2 h2 => FinS.mono h2 e1⟩
  | bk env1 => exact (show FinS X.K ι H D (.bk env1) M1 from h)
  | ct env1 => exact (show FinS X.K ι H D (.ct env1) M1 from h)
  | rt r => exact (show FinS X.K ι H D (.rt r) M1 from h)
theorem ds_never : DS G X W st fun _ => stk := ⟨fun pins s σ H D I ⟨_, _, _, _, _, go⟩ => False.elim go⟩
theorem ds_pass : DS G X W (.Pass pos) fun env => ret (.nx env) := ps_pass.weak fun D σ H ⟨ι, env, M, rs, S, go⟩ => go ι σ H Ext.refl rs S
theorem ds_break : DS G X W (.Break pos) fun env => ret (.bk env) := ps_break.weak fun D σ H ⟨ι, env, M, rs, S, go⟩ => go ι σ H Ext.refl rs S
theorem ds_cont : DS G X W (.Continue pos) fun env => ret (.ct env) := ps_continue.weak fun D σ H ⟨ι, env, M, rs, S, go⟩ => go ι σ H Ext.refl rs S
theorem ds_doc {x j} : DS G X W (.Expr (.Constant (.str x) j p) pos) fun env => ret (.nx env) := ps_doc.weak fun D σ H ⟨ι, env, M, rs, S, go⟩ => go ι σ H Ext.refl rs S
def sExpr (f : Env → Md Rv) : Env → Md Fl := fun env => bnd (f env) fun _ => ret (.nx env)
theorem ds_expr (hs : swapsWith e none pos.line X.env = pure false) (h : DE G X W e f) : DS G X W (.Expr e pos) (sExpr f) := (ps_expr h hs).weak fun D σ H ⟨ι, env, M, rs, S, go⟩ =>
  ⟨ι, env, M, rs, S, go.bnd.mono fun r M1 h ι1 v1 H1 e1 rr1 S1 => GoX.ret h ι1 σ H1 e1 (rs.ext e1) S1⟩
def sRet (f : Env → Md Rv) : Env → Md Fl := fun env => bnd (f env) fun r => ret (.rt r)
theorem ds_ret (h : DE G X W e f) : DS G X W (.Return (some e) pos) (sRet f) := (ps_ret h).weak fun D σ H ⟨ι, env, M, rs, S, go⟩ =>
  ⟨ι, env, M, rs, S, go.bnd.mono fun r M1 h ι1 v1 H1 e1 rr1 S1 => GoX.ret h ι1 v1 H1 e1 rr1 S1⟩
theorem ds_retN : DS G X W (.Return none pos) fun _ => ret (.rt (.d .non)) := ps_retN.weak fun D σ H ⟨ι, env, M, rs, S, go⟩ => go ι _ H Ext.refl .non S
def sIf (c : Env → Md Rv) (s r : Env → Md Fl) : Env → Md Fl := fun env => bnd (asBool c env) fun
  | true => s env
  | false => r env
theorem ds_if {s r : Env → Md Fl} {x y : List Stmt} (hc : DT G X W c (asBool k)) (ha : DSs G X W x s) (hb : DSs G X W y r) : DS G X W (.If c x y pos) (sIf k s r) := (ps_if hc ha hb).weak fun D σ H ⟨ι, env, M, rs, S, go⟩ =>
  ⟨ι, env, M, rs, S, go.bnd.mono fun b M1 h ι1 H1 e1 S1 => by
    cases b with
    | true => exact iteT ⟨ι1, env, M1, rs.ext e1, S1, (GoX.later h e1).mono fun fl M2 h2 => FinS.mono h2 e1⟩
    | false => exact iteF ⟨ι1, env, M1, rs.ext e1, S1, (GoX.later h e1).mono fun fl M2 h2 => FinS.mono h2 e1⟩⟩
/-- target = value -/
def sAsg (g : Tg) (f : Env → Md Rv) : Env → Md Fl := fun env => bnd (bnd (f env) settle) fun d => match tgt g d env with
  | some env' => ret (.nx env')
  | none => stk
theorem asg_weak {g : Tg} {te : TE} (hw : ∀ σ H Q, liftE G X.K W f σ H Q → te σ H Q) {D : Ends} {σ : L2.St} {H : Hp} (h : liftS G X.K W (sAsg g f) D σ H) : tAsg te (liftG X.K g) D σ H := by
  obtain ⟨ι, env, M, rs, S, go⟩ := h
  refine hw _ _ _ ⟨ι, env, M, rs, S, go.bnd.bnd.mono fun r M1 h ι1 v1 H1 e1 rr1 S1 => ?_⟩
  obtain ⟨d, ι2, M2, h2, e2, rd, S2⟩ := settle_go h e1 rr1 S1
  cases et : tgt g d env with
  | none => rw [et] at h2; exact False.elim h2
  | some env' =>
    rw [et] at h2
    exact ⟨ι2, env, d, env', rs.ext e2, rd, et, fun σ' rs' _ => GoX.ret h2 ι2 σ' H1 e2 rs' S2⟩
theorem ds_asg {g : Tg} (hs : swapsWithSole [tg] e pos.line X.env = pure false) (hw : swappedStores [tg] e X.env = pure none) (h1 : (assignEach [tg] X.env).map (·.2) = [assign tg X.env]) (he : DE G X W e f) (hg : PG X tg (liftG X.K g)) : DS G X W (.Assign [tg] e pos) (sAsg g f) :=
  (ps_asg he hg hs hw h1).weak fun D σ H h => asg_weak (fun _ _ _ z => z) h
/-- o[i] = value -/
def sPut (f g k : Env → Md Rv) : Env → Md Fl := fun env => bnd (bnd (k env) settle) fun d => bnd (f env) fun x => bnd (g env) fun y => bnd (putAt x y d) fun _ => ret (.nx env)
theorem ds_put (hs : swapsWithSole [.Subscript a b p] e pos.line X.env = pure false) (hw : swappedStores [.Subscript a b p] e X.env = pure none)
    (hb2 : ∀ v, assign (.Subscript a b p) X.env v = (do
      let ov ← holding [v] (eval a X.env)
      let iv ← holding [v, ov] (eval b X.env)
      standAt p
      holding [v, ov, iv] (setItem ov iv v)
      release [v, ov, iv] [])) (ha : DE G X W a f) (hb : DE G X W b g) (he : DE G X W e k) : DS G X W (.Assign [.Subscript a b p] e pos) (sPut f g k) :=
  (ps_asg he (pg_sub ha hb put_ok hb2) hs hw (by rfl)).weak fun D σ H ⟨ι, env, M, rs, S, go⟩ =>
    ⟨ι, env, M, rs, S, go.bnd.bnd.mono fun r M1 h ι1 v1 H1 e1 rr1 S1 => by
      obtain ⟨d, ι2, M2, h2, e2, rd, S2⟩ := settle_go h e1 rr1 S1
      refine ⟨ι2, env, M2, rs.ext e2, S2, (h2.bnd.later e2).mono fun r3 M3 h3 ι3 v3 H3 e3 rr3 S3 => ⟨ι3, env, M3, (rs.ext e2).ext e3, S3, (h3.bnd.later (e2.trans e3)).mono fun r4 M4 h4 ι4 v4 H4 e4 rr4 S4 => ?_⟩⟩
      have h4 := GoX.bnd h4
      cases ep : putAt r3 r4 d M4 with
      | stuck => rw [ep] at h4; exact False.elim h4
      | exc c p M5 =>
        unfold putAt at ep
        split at ep
        · split at ep
          · split at ep <;> cases ep
          · cases ep
        · cases ep
      | ok u M5 =>
        rw [ep] at h4
        exact ⟨ι4, H1, H3, M4, r3, r4, d, M5, rr3.ext e4, rr4, (rd.ext e3).ext e4, S4, ep, fun H5 e5 S5 => GoX.ret h4 ι4 σ H5 (e2.trans (e3.trans (e4.trans e5))) ((((rs.ext e2).ext e3).ext e4).ext e5) S5⟩⟩
theorem _root_.L2.PS.weakN {X : Cx} {e : Stmt} {t t' : TS} (h : PS X e t) (w : ∀ D σ H, σ.length = X.N.length → t' D σ H → t D σ H) : PS X e t' := ⟨fun pins s σ H D I q => h.run pins s σ H D I (w D σ H I.len q)⟩
/-- a, b = x, y -/
def sPar (js : List Nat) (t : Env → Md (List D)) : Env → Md Fl := fun env => bnd (t env) fun ds => match sets js ds env with
  | some env' => ret (.nx env')
  | none => stk
theorem ds_par2 {es : List Expr} {t : Env → Md (List D)} {i j : Nat} (hi : i < X.N.length) (hj : j < X.N.length) (hR : PS X st (tPar i j (liftA G X.K W t))) : DS G X W st (sPar [i, j] t) := hR.weakN fun D σ H hl h => by
  obtain ⟨ι, env, M, rs, S, go⟩ := h
  refine ⟨ι, env, M, rs, S, go.bnd.mono fun ds M1 h ι1 vs H1 e1 rr S1 => ?_⟩
  match ds, rr, h with
  | [d, d'], .cons r1 (.cons r2 .nil), h =>
    have h : FinS X.K ι H D (.nx ((env.set i (some d)).set j (some d'))) M1 := h
    exact ⟨_, _, rfl, h ι1 _ H1 e1 (((rs.ext e1).set r1 (by rw [hl]; exact hi)).set r2 (by rw [List.length_set, hl]; exact hj)) S1⟩
  | [], _, h => exact False.elim h
  | [_], _, h => exact False.elim h
  | _ :: _ :: _ :: _, _, h => exact False.elim h
theorem ds_par3 {es : List Expr} {t : Env → Md (List D)} {i j l : Nat} (hi : i < X.N.length) (hj : j < X.N.length) (hk : l < X.N.length) (hR : PS X st (tPar3 i j l (liftA G X.K W t))) : DS G X W st (sPar [i, j, l] t) := hR.weakN fun D σ H hl h => by
  obtain ⟨ι, env, M, rs, S, go⟩ := h
  refine ⟨ι, env, M, rs, S, go.bnd.mono fun ds M1 h ι1 vs H1 e1 rr S1 => ?_⟩
  match ds, rr, h with
  | [d, d', d''], .cons r1 (.cons r2 (.cons r3 .nil)), h =>
    have h : FinS X.K ι H D (.nx (((env.set i (some d)).set j (some d')).set l (some d''))) M1 := h
    exact ⟨_, _, _, rfl, h ι1 _ H1 e1 ((((rs.ext e1).set r1 (by rw [hl]; exact hi)).set r2 (by rw [List.length_set, hl]; exact hj)).set r3 (by rw [List.length_set, List.length_set, hl]; exact hk)) S1⟩
  | [], _, h => exact False.elim h
  | [_], _, h => exact False.elim h
  | [_, _], _, h => exact False.elim h
  | _ :: _ :: _ :: _ :: _, _, h => exact False.elim h

/-! ### loops -/
def forF (g : Tg) (s : Env → Md Fl) : D → Env → Md Fl := fun d e => match tgt g d e with
  | some e' => s e'
  | none => stk
def sFor (it : Env → Md Itv) (g : Tg) (s : Env → Md Fl) : Env → Md Fl := fun env => bnd (it env) fun iv => forAll_ (forF g s) iv env
theorem forL_D (f : D → Env → Md Fl) : ∀ (ds all : List D) (i : Nat) (env : Env) (M : Ar), all.drop i = ds → forL f ds env M = forD f (.st all) i ds.length env M
  | [], all, i, env, M, h => by
    have hl : all.length ≤ i := by
      have := congrArg List.length h
      simp at this; omega
    show Out.ok (Fl.nx env) M = (if all.length ≤ i then Out.ok (Fl.nx env) M else .stuck)
    rw [if_pos hl]
  | x :: xs, all, i, env, M, h => by
    have hx : all[i]? = some x := by
      have := congrArg (·[0]?) h
      simpa using this
    have hr : all.drop (i + 1) = xs := by
      have := congrArg List.tail h
      simpa using this
    show bnd (f x env) _ M = (match itNth M i (.st all) with | some x => bnd (f x env) _ M | none => .stuck)
    rw [show itNth M i (.st all) = some x from hx]
    show bnd (f x env) _ M = bnd (f x env) _ M
    unfold bnd
    cases f x env M with
    | ok o M' =>
      cases o with
      | nx e => exact forL_D f xs all (i + 1) e M' hr
      | ct e => exact forL_D f xs all (i + 1) e M' hr
      | bk e => rfl
      | rt r => rfl
    | exc c p M' => rfl
    | stuck => rfl
theorem forAll_D {f : D → Env → Md Fl} {iv : Itv} {env : Env} {M : Ar} : ∃ k, forAll_ f iv env M = forD f iv 0 k env M ∨ forAll_ f iv env M = .stuck := by
  cases iv with
  | st ds => exact ⟨ds.length, .inl (forL_D f ds ds 0 env M rfl)⟩
  | one n =>
    show ∃ k, (match itLen M (.one n) with | some k => forD f (.one n) 0 k env M | none => .stuck) = _ ∨ (match itLen M (.one n) with | some k => forD f (.one n) 0 k env M | none => .stuck) = _
    cases itLen M (.one n) with
    | none => exact ⟨0, .inr rfl⟩
    | some k => exact ⟨k, .inl rfl⟩
  | zip a b =>
    show ∃ k, (match itLen M (.zip a b) with | some k => forD f (.zip a b) 0 k env M | none => .stuck) = _ ∨ (match itLen M (.zip a b) with | some k => forD f (.zip a b) 0 k env M | none => .stuck) = _
    cases itLen M (.zip a b) with
    | none => exact ⟨0, .inr rfl⟩
    | some k => exact ⟨k, .inl rfl⟩
  | enum n =>
    show ∃ k, (match itLen M (.enum n) with | some k => forD f (.enum n) 0 k env M | none => .stuck) = _ ∨ (match itLen M (.enum n) with | some k => forD f (.enum n) 0 k env M | none => .stuck) = _
    cases itLen M (.enum n) with
    | none => exact ⟨0, .inr rfl⟩
    | some k => exact ⟨k, .inl rfl⟩
theorem ds_for (fw : Free W) (hp : PassesOwn (model X.prog X.w) X.A X.env X.xe) (hc : X.calm = true) {it : Env → Md Itv} {g : Tg} {s : Env → Md Fl} {iter : Expr} {body : List Stmt} (hs : ∀ x, foldedSetIterable iter X.env x = pure x)
    (hi : DI G X W tg iter it) (hg : PG X tg (liftG X.K g)) (hb : DSs G X W body s) : DS G X W (.For tg iter body [] pos) (sFor it g s) := (ps_for hp hc hi hg hb hs).weak fun D σ H ⟨ι, env, M, rs, S, go⟩ => by
  refine ⟨ι, env, M, rs, S, go.bnd.mono fun iv M1 h1 ι1 H1 J e1 S1 yl => ?_⟩
  obtain ⟨k0, ek⟩ := @forAll_D (forF g s) iv env M1
  rcases ek with ek | ek
  · rw [ek] at h1
    refine ⟨fun i m σc Hc => ∃ ιc Mc ec, Ext X.K ι1 H1 ιc Hc ∧ Sim X.K ιc Hc Mc ∧ RepSt X.K ιc Hc σc ec ∧ GoX G X.K W σ ι H (forD (forF g s) iv i m ec Mc) (FinS X.K ι H D), ⟨k0, ι1, M1, env, Ext.refl, S1, rs.ext e1, h1⟩, ?_⟩
    rintro i m σc Hc ⟨ιc, Mc, envc, ec, Sc, rsc, goc⟩
    cases m with
    | zero =>
      refine .inl ?_
      have goc : GoX G X.K W σ ι H (match itLen Mc iv with | some l => if l ≤ i then .ok (Fl.nx envc) Mc else .stuck | none => .stuck) (FinS X.K ι H D) := goc
      cases el : itLen Mc iv with
      | none => rw [el] at goc; exact False.elim goc
      | some l =>
        rw [el] at goc
        simp only at goc
        by_cases hl : l ≤ i
        · rw [if_pos hl] at goc
          exact ⟨yl.stop i ιc Hc Mc l ec Sc el hl, goc ιc σc Hc (e1.trans ec) rsc Sc⟩
        · rw [if_neg hl] at goc; exact False.elim goc
    | succ m =>
      refine .inr ?_
      have goc : GoX G X.K W σ ι H (match itNth Mc i iv with
        | some x => bnd (forF g s x envc) (fun
          | .nx e => forD (forF g s) iv (i + 1) m e
          | .ct e => forD (forF g s) iv (i + 1) m e
          | .bk e => ret (.nx e)
          | .rt r => ret (.rt r)) Mc
        | none => .stuck) (FinS X.K ι H D) := goc
      cases en : itNth Mc i iv with
      | none => rw [en] at goc; exact False.elim goc
      | some d =>
        rw [en] at goc
        obtain ⟨jg, jy⟩ := yl.go i ιc Hc Mc d ec Sc en
        refine ⟨jg, _, fun σ' H' w => ⟨m, Nat.lt_succ_self _, w⟩, fun x H' y => ?_⟩
        obtain ⟨ey, Sy, ry⟩ := jy x H' y
        have gt := GoX.bnd goc
        cases et : tgt g d envc with
        | none =>
          have gt : GoX G X.K W σ ι H ((match tgt g d envc with | some e' => s e' | none => stk) Mc) _ := gt
          rw [et] at gt
          exact False.elim gt
        | some env1 =>
          have gt : GoX G X.K W σ ι H ((match tgt g d envc with | some e' => s e' | none => stk) Mc) _ := gt
          rw [et] at gt
          refine ⟨ιc, envc, d, env1, rsc.ext ey, ry, et, fun σ2 rs2 o2 => ⟨ιc, env1, Mc, rs2, Sy, (GoX.to fw gt ((e1.trans ec).trans ey)).mono fun fl Mf hf => ?_⟩⟩
          cases fl with
          | nx e2 => exact fun ι' σ' H'' e' rs' S' => ⟨ι', Mf, e2, ec.trans (ey.trans e'), S', rs', hf⟩
          | ct e2 => exact fun ι' σ' H'' e' rs' S' => ⟨ι', Mf, e2, ec.trans (ey.trans e'), S', rs', hf⟩
          | bk e2 => exact fun ι' σ' H'' e' rs' S' => GoX.ret hf ι' σ' H'' ((e1.trans ec).trans (ey.trans e')) rs' S'
          | rt r => exact fun ι' v H'' e' rr S' => GoX.ret hf ι' v H'' ((e1.trans ec).trans (ey.trans e')) (rr.back fun _ z => ((e1.trans ec).trans ey).noneB z) S'
  · rw [ek] at h1; exact False.elim h1
def sWhile (fuel : Nat) (c : Env → Md Rv) (s : Env → Md Fl) : Env → Md Fl := fun env => whileF (fun e => asBool c e) s fuel env
theorem ds_while (fw : Free W) (hp : PassesOwn (model X.prog X.w) X.A X.env X.xe) {fuel : Nat} {s : Env → Md Fl} {body : List Stmt} (hc : DT G X W c (asBool k)) (hb : DSs G X W body s) : DS G X W (.While c body [] pos) (sWhile fuel k s) := (ps_while hp hc hb).weak fun D σ H ⟨ι, env, M, rs, S, go⟩ => by
  refine ⟨fun m σc Hc => ∃ ιc Mc ec, Ext X.K ι H ιc Hc ∧ Sim X.K ιc Hc Mc ∧ RepSt X.K ιc Hc σc ec ∧ GoX G X.K W σ ι H (whileF (fun e => asBool k e) s m ec Mc) (FinS X.K ι H D), ⟨fuel, ι, M, env, Ext.refl, S, rs, go⟩, ?_⟩
  rintro m σc Hc ⟨ιc, Mc, envc, ec, Sc, rsc, goc⟩
  cases m with
  | zero => exact False.elim goc
  | succ m =>
    have gt := GoX.bnd goc
    refine ⟨ιc, envc, Mc, rsc, Sc, (GoX.to fw gt ec).mono fun b M1 h1 ι1 H1 e1 S1 => ?_⟩
    cases b with
    | false => exact iteF (GoX.ret h1 ι1 σc H1 (ec.trans e1) (rsc.ext e1) S1)
    | true =>
      refine iteT ⟨_, fun σ' H' w => ⟨m, Nat.lt_succ_self _, w⟩, ι1, envc, M1, rsc.ext e1, S1, (GoX.to fw (GoX.bnd h1) (ec.trans e1)).mono fun fl Mf hf => ?_⟩
      cases fl with
      | nx e2 => exact fun ι' σ' H'' e' rs' S' => ⟨ι', Mf, e2, ec.trans (e1.trans e'), S', rs', hf⟩
      | ct e2 => exact fun ι' σ' H'' e' rs' S' => ⟨ι', Mf, e2, ec.trans (e1.trans e'), S', rs', hf⟩
      | bk e2 => exact fun ι' σ' H'' e' rs' S' => GoX.ret hf ι' σ' H'' (ec.trans (e1.trans e')) rs' S'
      | rt r => exact fun ι' v H'' e' rr S' => GoX.ret hf ι' v H'' (ec.trans (e1.trans e')) (rr.back fun _ z => (ec.trans e1).noneB z) S'
end
end Q
end

section
set_option Elab.async false
set_option linter.all false
set_option maxRecDepth 100000
set_option maxHeartbeats 4000000
/-! The look that a term is that of an expression, and that then it computes it. -/
namespace Q
open PySem PySem.Spec PyProof.Rows L2

/-! ### looks -/
def unBin : Expr → Option (Expr × Operator × Expr)
  | .BinOp a o b _ => some (a, o, b)
  | _ => none
def starE : Expr → Bool
  | .Starred _ _ => true
  | _ => false
def sliceE : Expr → Bool
  | .Slice _ _ _ _ => true
  | _ => false
def setE : Expr → Bool
  | .Set _ _ _ => true
  | _ => false
def cstOk (d : D) (c : Const) : Bool := match c, d with
  | .none, .non => true
  | .bool a, .bl b => a == b
  | .int a, .int b => decide (a = b)
  | .str a, .str b => decide (a.cps.toList = b)
  | _, _ => false
def tyNm : Ty → Str
  | .int => "int" | .bool => "bool" | .str => "str" | .tuple => "tuple" | .list => "list" | .dict => "dict"
def bltNm : Blt → Str
  | .len => "len" | .abs => "abs" | .int => "int" | .max => "max" | .min => "min" | .sum => "sum" | .all => "all" | .any => "any"
  | .tuple => "tuple" | .list => "list" | .gcd => "gcd" | .sorted => "sorted" | .lenset => "set" | .str => "str"
def mthNm : Mth → Str
  | .append => "append" | .pop => "pop" | .extend => "extend"
def bopIs (o : Bop) (p : Operator) : Bool := match o, p with
  | .add, .Add | .sub, .Sub | .mul, .Mult | .div, .FloorDiv | .mod, .Mod | .pow, .Pow => true
  | _, _ => false
def copIs (o : Cop) (p : CmpOp) : Bool := match o, p with
  | .eq, .Eq | .ne, .NotEq | .lt, .Lt | .le, .LtE | .gt, .Gt | .ge, .GtE | .is_, .Is | .isn, .IsNot | .in_, .In | .nin, .NotIn => true
  | _, _ => false
theorem bopIs_eq {o : Bop} {p : Operator} (h : bopIs o p = true) : p = bopA o := by cases o <;> cases p <;> first | rfl | cases h
theorem copIs_eq {o : Cop} {p : CmpOp} (h : copIs o p = true) : p = copA o := by cases o <;> cases p <;> first | rfl | cases h
theorem mark_of {o : CmpOp} {b : Expr} (h : setE b = false) : behindInMarks o b = false := by cases b <;> first | rfl | cases h
def isTrueT : Tm → Bool
  | .cst (.bl true) => true
  | _ => false
/-- what the text's names are -/
structure NX where
  consts : List (Str × D)
  fns : List (Str × Nat × Nat)
  free : List Str
  bfs : List (Str × Blt)
section
variable (G : NX) (N : List Str)
def glb (sc : Scope) (x : Str) : Bool := decide (sc.names.lookup x = some .globalImplicit) && (decide (x ≠ "__debug__") && decide (x ≠ "__name__"))
def visB (sc : Scope) (x : Str) : Bool := match sc.names.lookup x with
  | some .local => true | some .cell => true | some .free => true | _ => false
def freeB (sc : Scope) (x : Str) : Bool := glb sc x && G.free.any fun y => decide (y = x)
def tysB (sc : Scope) : List Ty → List Expr → Bool
  | [], [] => true
  | t :: ts, .Name x _ :: es => decide (x = tyNm t) && (freeB G sc x && tysB sc ts es)
  | _, _ => false
def isinB (sc : Scope) (ts : List Ty) (e : Expr) : Bool := match e with
  | .Name x _ => (match ts with | [t] => decide (x = tyNm t) && freeB G sc x | _ => false)
  | .Tuple es _ _ => tysB G sc ts es && decide (ts.length < 100)
  | _ => false
def bltB (sc : Scope) (b : Blt) (x : Str) : Bool := (decide (x = bltNm b) && (freeB G sc x && !(match b with | .gcd => true | .lenset => true | _ => false))) ||
  (glb sc x && G.bfs.any fun p => decide (p.1 = x) && (match b, p.2 with | .gcd, .gcd => true | _, _ => false))
def locB (sc ws : Scope) (x : Str) : Bool := match sc.names.lookup x with
  | some .local => true | some .cell => decide (ws.names.lookup x = some .cell) | _ => false
/-- a comprehension's parts -/
def unComp : Expr → Option (Expr × Expr × Expr × List Expr × Scope)
  | .ListComp elt [⟨tg, iter, ifs, 0⟩] scope _ => some (elt, tg, iter, ifs, scope)
  | _ => none
def tupE : Expr → Bool
  | .Tuple _ _ _ => true
  | _ => false
def ownN (own : List Nat) : List (Str × Nat) := own.map fun i => (N.getD i "", i)
mutual
/-- a target: sc the names' kinds as they run, ws as written -/
def cG (sc ws : Scope) : Tg → Expr → Bool
  | .nm i, e => match e with
    | .Name x _ => decide (N[i]? = some x) && locB sc ws x
    | _ => false
  | .tp gs, e => match e with
    | .Tuple es _ _ => cGs sc ws gs es
    | _ => false
def cGs (sc ws : Scope) : Tgs → List Expr → Bool
  | .nil, es => es.isEmpty
  | .cons g gs, es => match es with
    | e :: r => cG sc ws g e && cGs sc ws gs r
    | [] => false
end
mutual
def cE : Tm → Scope → Expr → Bool
  | .never, _, _ => true
  | .var i, sc, e => match e with
    | .Name x _ => decide (N[i]? = some x) && (visB sc x && (decide (x ≠ "__debug__") && decide (x ≠ "__classdict__")))
    | _ => false
  | .cst d, sc, e => match e with
    | .Constant c _ _ => cstOk d c
    | .Name x _ => glb sc x && G.consts.any fun p => decide (p.1 = x) && D.eqb p.2 d
    | _ => false
  | .neg a, sc, e => match e with
    | .UnaryOp .USub x _ => cE a sc x
    | _ => false
  | .nt a, sc, e => match e with
    | .UnaryOp .Not x _ => cE a sc x
    | _ => false
  | .bin o a b, sc, e => match e with
    | .BinOp x p y _ => bopIs o p && (cE a sc x && cE b sc y)
    | _ => false
  | .cmp o a b, sc, e => match e with
    | .Compare x [p] [y] _ => copIs o p && (!setE y && (cE a sc x && cE b sc y))
    | _ => false
  | .chain o o' a b c, sc, e => match e with
    | .Compare x [p, p'] [y, z] _ => copIs o p && (copIs o' p' && (!setE y && (!setE z && (cE a sc x && (cE b sc y && cE c sc z)))))
    | _ => false
  | .and a b, sc, e => match e with
    | .BoolOp .And (x :: y :: r) pos => cE a sc x && (match r with
      | [] => cE b sc y
      | z :: r => cE b sc (.BoolOp .And (y :: z :: r) pos))
    | _ => false
  | .or a b, sc, e => match e with
    | .BoolOp .Or (x :: y :: r) pos => cE a sc x && (match r with
      | [] => cE b sc y
      | z :: r => cE b sc (.BoolOp .Or (y :: z :: r) pos))
    | _ => false
  | .ite c a b, sc, e => match e with
    | .IfExp x y z _ => cE c sc x && (cE a sc y && cE b sc z)
    | _ => false
  | .tup es, sc, e => match e with
    | .Tuple xs _ _ => cEs es sc xs
    | _ => false
  | .lst es, sc, e => match e with
    | .List xs _ => cEs es sc xs
    | _ => false
  | .idx a b, sc, e => match e with
    | .Subscript x y _ => !sliceE y && (cE a sc x && cE b sc y)
    | _ => false
  | .slc a lo hi, sc, e => match e with
    | .Subscript x (.Slice l h none _) _ => cE a sc x && ((match l with
      | none => isAbs lo
      | some l => !isAbs lo && cE lo sc l) && (match h with
      | none => isAbs hi
      | some h => !isAbs hi && cE hi sc h))
    | _ => false
  | .call f es, sc, e => match e with
    | .Call (.Name x _) (a :: r) [] _ => glb sc x && ((a :: r).all (fun z => !starE z) && ((G.fns.any fun p => decide (p.1 = x) && Nat.beq p.2.1 f) && cEs es sc (a :: r)))
    | _ => false
  | .blt b es, sc, e => match e with
    | .Call (.Name x _) (a :: r) [] _ => bltB G sc b x && ((a :: r).all (fun z => !starE z) && cRs es sc (a :: r))
    | _ => false
  | .isin a ts, sc, e => match e with
    | .Call (.Name x _) [y, z] [] _ => decide (x = "isinstance") && (freeB G sc x && (!starE y && (isinB G sc ts z && cE a sc y)))
    | _ => false
  | .comp own it g c elt, sc, e => match unComp e with
    | some (x, tg, iter, ifs, scope) => blkC N sc scope (ownN N own) && (g.slots.all (fun i => decide (i ∈ own)) && (!setE iter && (cI it sc tg iter && (cG N (relS scope sc) scope g tg && ((match ifs with
      | [] => isTrueT c
      | [y] => cE c (relS scope sc) y
      | _ => false) && cE elt (relS scope sc) x)))))
    | none => false
  | .meth m a es, sc, e => match e with
    | .Call (.Attribute x nm apos) args [] pos => decide (nm = mthNm m) && ((match m with | .pop => args.isEmpty | _ => !args.isEmpty) && (Nat.beq apos.endLine pos.line && (!(match x with | .Call _ _ _ _ => true | _ => false) && (args.all (fun z => !starE z) && (decide (args.length < 20) && (cE a sc x && cEs es sc args))))))
    | _ => false
def cEs : Es → Scope → List Expr → Bool
  | .nil, _, es => es.isEmpty
  | .cons t ts, sc, es => match es with
    | e :: r => !starE e && (cE t sc e && cEs ts sc r)
    | [] => false
  | .star t ts, sc, es => match es with
    | .Starred e _ :: r => cE t sc e && cEs ts sc r
    | _ => false
def cRs : Es → Scope → List Expr → Bool
  | .nil, _, es => es.isEmpty
  | .cons t ts, sc, es => match es with
    | e :: r => !starE e && (cE t sc e && cRs ts sc r)
    | [] => false
  | .star _ _, _, _ => false
def cI : Itm → Scope → Expr → Expr → Bool
  | .seq a, sc, _, e => cE a sc e
  | .rng es, sc, _, e => match e with
    | .Call (.Name x _) args [] _ => decide (x = "range") && (freeB G sc x && (decide (args.length = 1 ∨ args.length = 2) && (args.all (fun z => !starE z) && cRs es sc args)))
    | _ => false
  | .zip a b, sc, tg, e => match e with
    | .Call (.Name x _) [y, z] [] _ => decide (x = "zip") && (freeB G sc x && (tupE tg && (!starE y && (!starE z && (cE a sc y && cE b sc z)))))
    | _ => false
  | .enum a, sc, tg, e => match e with
    | .Call (.Name x _) [y] [] _ => decide (x = "enumerate") && (freeB G sc x && (tupE tg && (!starE y && cE a sc y)))
    | _ => false
end
end
end Q
end

section
set_option Elab.async false
set_option linter.all false
set_option maxRecDepth 100000
set_option maxHeartbeats 4000000
namespace Q
open PySem PySem.Spec PyProof.Rows L2
/-- a context in which the text's names are what they are told to be -/
structure XOk (G : NX) (E : GX) (F : Nat → List D → Md Rv) (N : List Str) (sc ws : Scope) (W : WX) (X : Cx) : Prop where
  hsc : X.env.scope = sc
  hN : X.N = N
  nd : N.Nodup
  calm : X.calm = true
  tk : Takes X W
  po : PassesOwn (model X.prog X.w) X.A X.env X.xe
  room : X.A.units + 65 < cLine
  fn : ∀ x, ws.names.lookup x = some .cell → X.fn x = true
  cst : ∀ x d, (x, d) ∈ G.consts → ∃ u v, X.mg x = some u ∧ RelV v u ∧ ∀ ι H, Rep X.K ι H v d
  free : ∀ x, x ∈ G.free → X.mg x = none
  bfs : ∀ x b, (x, b) ∈ G.bfs → X.mg x = some (bltA b)
  fun_ : ∀ x f n, (x, f, n) ∈ G.fns → ∃ k fa fd ps, FnOk X.prog X.w X.K X.mg X.base (L2.CX X.prog X.w) k fa fd ps (spD E X.K n (F f)) ∧ Room k X.A ∧ X.mg x = some (.ref fa) ∧ PySem.W.keepIn X.K (.ref fa) = true ∧ Binds X.K fd ps [] ∧ ∀ ds M, ds.length ≠ n → F f ds M = .stuck
theorem takes0' {X : Cx} : Takes X W0 := fun _ _ ⟨_, _, _, _, _, _, _, _, _, _, _, _, _, _, _, _, w⟩ => w.elim
theorem XOk.blk {G : NX} {E : GX} {F : Nat → List D → Md Rv} {N : List Str} {sc ws : Scope} {W : WX} {X : Cx} (h : XOk G E F N sc ws W X) (scope : Scope) (s : Shared) (H : Hp) (C : Addr) (cl : List (Str × Addr)) (fp : List Addr) :
    XOk G E F N (relS scope sc) scope W0 (X.blk s H scope (compEnvC scope cl C X.env) fp) where
  hsc := by
    show relS scope X.env.scope = relS scope sc
    rw [h.hsc]
  hN := h.hN
  nd := h.nd
  calm := h.calm
  tk := takes0'
  po := PassesOwn.never
  room := h.room
  fn := fun x e => by
    show (scope.names.lookup x == some NameKind.cell) = true
    rw [e]; rfl
  cst := h.cst
  free := h.free
  bfs := h.bfs
  fun_ := h.fun_
theorem and2 {a b : Bool} (h : (a && b) = true) : a = true ∧ b = true := Bool.and_eq_true_iff.mp h
section
variable {G : NX} {E : GX} {F : Nat → List D → Md Rv} {N : List Str} {sc ws : Scope} {W : WX} {X : Cx}
theorem glb_of {x : Str} (ok : XOk G E F N sc ws W X) (h : glb sc x = true) : Gl X x ∧ (x == ("__debug__" : Str)) = false ∧ x ≠ "__name__" := by
  obtain ⟨h1, h2⟩ := and2 h
  obtain ⟨h2, h3⟩ := and2 h2
  refine ⟨?_, ?_, of_decide_eq_true h3⟩
  · show X.env.scope.names.lookup x = _
    rw [ok.hsc]; exact of_decide_eq_true h1
  · exact beq_eq_false_iff_ne.mpr (of_decide_eq_true h2)
theorem freeB_of {x : Str} (ok : XOk G E F N sc ws W X) (h : freeB G sc x = true) : Gl X x ∧ (x == ("__debug__" : Str)) = false ∧ x ≠ "__name__" ∧ X.mg x = none := by
  obtain ⟨h1, h2⟩ := and2 h
  obtain ⟨a, b, c⟩ := glb_of ok h1
  refine ⟨a, b, c, ok.free x ?_⟩
  obtain ⟨y, hy, e⟩ := List.any_eq_true.mp h2
  rw [← of_decide_eq_true e]; exact hy
theorem vis_of {x : Str} (ok : XOk G E F N sc ws W X) (h : visB sc x = true) : Vis X.env.scope x := by
  unfold visB at h
  show X.env.scope.names.lookup x = _ ∨ X.env.scope.names.lookup x = _ ∨ X.env.scope.names.lookup x = _
  rw [ok.hsc]
  cases e : sc.names.lookup x with
  | none => rw [e] at h; cases h
  | some k =>
    rw [e] at h
    cases k with
    | «local» => exact .inl rfl
    | cell => exact .inr (.inl rfl)
    | free => exact .inr (.inr rfl)
    | _ => cases h
theorem loc_of {sc ws : Scope} {x : Str} (h : locB sc ws x = true) : sc.names.lookup x = some .local ∨ (sc.names.lookup x = some .cell ∧ ws.names.lookup x = some .cell) := by
  unfold locB at h
  cases e : sc.names.lookup x with
  | none => rw [e] at h; cases h
  | some k =>
    rw [e] at h
    cases k with
    | «local» => exact .inl rfl
    | cell => exact .inr ⟨rfl, of_decide_eq_true h⟩
    | _ => cases h
theorem starE_of {e : Expr} {es : List Expr} {env : PySem.Env} (h : starE e = false) : starEach (e :: es) env = (false, eval e env) :: starEach es env := by cases e <;> first | rfl | cases h
theorem plain_of {pos : Pos} {env : PySem.Env} : ∀ {es : List Expr}, es.all (fun z => !starE z) = true → (backTo pos (starEach es env)).any (·.1) = false
  | [], _ => rfl
  | e :: es, h => by
    obtain ⟨h1, h2⟩ := and2 (show (!starE e && es.all fun z => !starE z) = true from h)
    rw [starE_of (by simpa using h1)]
    show (false || (backTo pos (starEach es env)).any (·.1)) = false
    rw [plain_of h2]; rfl
theorem consts_of {x : Str} {d : D} (ok : XOk G E F N sc ws W X) (h : (G.consts.any fun p => decide (p.1 = x) && D.eqb p.2 d) = true) : ∃ u v, X.mg x = some u ∧ RelV v u ∧ ∀ ι H, Rep X.K ι H v d := by
  obtain ⟨p, hp, e⟩ := List.any_eq_true.mp h
  obtain ⟨e1, e2⟩ := and2 e
  refine ok.cst x d ?_
  rw [← of_decide_eq_true e1, ← D.eqb_eq e2]; exact hp
theorem rep_cst {K : PySem.W.Frag} {d : D} {c : Const} (h : cstOk d c = true) {j : Nat} {pos : Pos} : ∃ v, (∀ X : Cx, PE X (.Constant c j pos) (tC v)) ∧ ∀ ι H, Rep K ι H v d := by
  cases c <;> cases d <;> first | (cases h; done) | skip
  · exact ⟨.non, fun X => pe_non, fun _ _ => .non⟩
  · obtain rfl := eq_of_beq (show (_ == _) = true from h)
    exact ⟨.bl _, fun X => pe_bl, fun _ _ => .bl _⟩
  · obtain rfl := of_decide_eq_true (show decide (_ = _) = true from h)
    exact ⟨.int _, fun X => pe_int, fun _ _ => .int _⟩
  · rename_i a b
    have e : a.cps.toList = b := of_decide_eq_true h
    refine ⟨.str a, fun X => pe_str, fun _ _ => ?_⟩
    have : a = ⟨b.toArray⟩ := by rw [← e]
    rw [this]; exact .str b
theorem plainIx_of {e : Expr} (h : sliceE e = false) : PlainIx e := fun o i => by cases e <;> first | rfl | cases h
theorem pe_bool {X : Cx} {e : Expr} {f : Env → Md Rv} (h : DE E X W e f) (he : ∀ whole, isTrue e X.env whole = (do let v ← whole; standAt e.pos; holding [v] (truthy v))) : DE E X W e f ∧ DT E X W e (asBool f) := ⟨h, dt_val h he⟩

/-! ### targets -/
mutual
theorem cG_ok (ok : XOk G E F N sc ws W X) : ∀ (g : Tg) (e : Expr), cG N sc ws g e = true → PG X e (liftG X.K g)
  | .nm i, e, h => by
    cases e with
    | Name x pos =>
      obtain ⟨h1, h2⟩ := and2 h
      have h1 := of_decide_eq_true h1
      have l1 := loc_of h2
      refine dg_name (by rw [ok.hN]; exact (List.getElem?_eq_some_iff.mp h1).1) (pg_name (by rw [ok.hN]; exact ok.nd) (by rw [ok.hN]; exact h1) (by show X.env.scope.names.lookup x = _ ∨ X.env.scope.names.lookup x = _; rw [ok.hsc]; exact l1.imp id (·.1)) ?_)
      rcases l1 with l1 | l1
      · exact .inr (by rw [ok.hsc]; exact l1)
      · exact .inl (ok.fn x l1.2)
    | _ => cases h
  | .tp gs, e, h => by
    cases e with
    | Tuple es k pos =>
      have hs := cGs_ok ok gs es h
      exact dg_tup ok.calm hs.1 hs.2.1 hs.2.2
    | _ => cases h
theorem cGs_ok (ok : XOk G E F N sc ws W X) : ∀ (gs : Tgs) (es : List Expr), cGs N sc ws gs es = true → PGs X es (liftGs X.K gs) ∧ (assignEach es X.env).length = gs.count ∧ (assignEach es X.env).findIdx? (·.1) = none
  | .nil, es, h => by
    cases es with
    | nil => exact ⟨dgs_nil, rfl, rfl⟩
    | cons _ _ => cases h
  | .cons g gs, es, h => by
    cases es with
    | nil => cases h
    | cons e r =>
      obtain ⟨h1, h2⟩ := and2 h
      obtain ⟨p, q1, q2⟩ := cGs_ok ok gs r h2
      have pe := cG_ok ok g e h1
      have key : assignEach (e :: r) X.env = (false, assign e X.env) :: assignEach r X.env := by
        cases e with
        | Starred _ _ => cases g <;> cases h1
        | _ => rfl
      refine ⟨dgs_cons pe p (by rw [key]; rfl), by rw [key]; exact congrArg (· + 1) q1, ?_⟩
      rw [key, List.findIdx?_cons]
      simp only
      rw [if_neg (by decide), q2]; rfl
end
end
end Q
end

section
set_option Elab.async false
set_option linter.all false
set_option maxRecDepth 100000
set_option maxHeartbeats 8000000
namespace Q
open PySem PySem.Spec PyProof.Rows L2
section
variable {G : NX} {E : GX} {F : Nat → List D → Md Rv} {N : List Str} {sc ws : Scope} {W : WX} {X : Cx}
theorem not_t {b : Bool} (h : (!b) = true) : b = false := by cases b <;> first | rfl | cases h
theorem boot_of (b : Blt) (h : (match b with | .gcd => true | .lenset => true | _ => false) = false) : bootBuiltins (bltNm b) = some (bltA b) := by
  cases b <;> first | rfl | (cases h; done) | (decide +kernel)
/-- a built-in's call, by the value that its name has -/
theorem de_blt {b : Blt} {x : Str} {p pos : Pos} {a : Expr} {r : List Expr} {t : Env → Md (List Rv)} (ok : XOk G E F N sc ws W X) (h : bltB G sc b x = true) (hs : (a :: r).all (fun z => !starE z) = true) (ha : DR E X W (a :: r) t) :
    DE E X W (.Call (.Name x p) (a :: r) [] pos) (sBlt b t) := by
  obtain ⟨s1, s2⟩ := and2 (show (!starE a && r.all fun z => !starE z) = true from hs)
  have he : starEach (a :: r) X.env = (false, eval a X.env) :: starEach r X.env := starE_of (not_t s1)
  have hpl : (backTo pos (starEach r X.env)).any (·.1) = false := plain_of s2
  have hc := @call_bi X ok.calm b
  refine PE.weak (t := tCB (rBi X.K b) (liftR E X.K W t)) ?_ fun σ H Q q => blt_weak q
  rcases Bool.or_eq_true_iff.mp h with h | h
  · obtain ⟨h1, h2⟩ := and2 h
    obtain ⟨h2, h3⟩ := and2 h2
    have h1 := of_decide_eq_true h1
    obtain ⟨g1, g2, g3, g4⟩ := freeB_of ok h2
    have hv := boot_of b (not_t h3)
    rw [← h1] at hv
    cases b <;> first
      | (cases (not_t h3); done)
      | exact pe_callB hc g1 g4 hv ha g3 g2 he hpl
      | exact pe_callTy hc g1 g4 hv ha g3 g2 he hpl
  · obtain ⟨h1, h2⟩ := and2 h
    obtain ⟨g1, g2, g3⟩ := glb_of ok h1
    obtain ⟨q, hq, h2⟩ := List.any_eq_true.mp h2
    obtain ⟨h4, h3⟩ := and2 h2
    have h4 := of_decide_eq_true h4
    obtain ⟨y, b'⟩ := q
    cases b' <;> cases b <;> first | (cases h3; done) | skip
    have hm := ok.bfs _ _ hq
    rw [show y = x from h4] at hm
    exact pe_callBfun hc g1 hm ha g2 he hpl
theorem de_call {f : Nat} {x : Str} {p pos : Pos} {a : Expr} {r : List Expr} {t : Env → Md (List D)} (ok : XOk G E F N sc ws W X) (hg : glb sc x = true) (hs : (a :: r).all (fun z => !starE z) = true) (hf : (G.fns.any fun p => decide (p.1 = x) && Nat.beq p.2.1 f) = true) (ha : DA E X W (a :: r) t) :
    DE E X W (.Call (.Name x p) (a :: r) [] pos) (sCall (F f) t) := by
  obtain ⟨s1, s2⟩ := and2 (show (!starE a && r.all fun z => !starE z) = true from hs)
  have he : starEach (a :: r) X.env = (false, eval a X.env) :: starEach r X.env := starE_of (not_t s1)
  have hpl : (backTo pos (starEach r X.env)).any (·.1) = false := plain_of s2
  obtain ⟨g1, g2, g3⟩ := glb_of ok hg
  obtain ⟨q, hq, hf⟩ := List.any_eq_true.mp hf
  obtain ⟨h1, h2⟩ := and2 hf
  have h1 := of_decide_eq_true h1
  have h2 := Nat.eq_of_beq_eq_true h2
  obtain ⟨y, f', n⟩ := q
  obtain rfl : y = x := h1
  obtain rfl : f' = f := h2
  obtain ⟨k, fa, fd, ps, Fn, hr, hm, hk, hb, hn⟩ := ok.fun_ _ _ _ hq
  exact (pe_callS Fn hr g1 hm hk hb (fun σ => passAt ok.tk σ) ha g2 he hpl).weak fun σ H Q q => call_weak hn q
def sIsin (f : Env → Md Rv) (ts : List Ty) : Env → Md Rv := fun env => bnd (f env) fun x => bnd (opt fun M => isTys M x ts) fun b => ret (.d (.bl b))
theorem name_some {M : Ar} {x : Rv} {t : Ty} {b : Bool} (h : isTyM M x t = some b) : ∃ n, nameR M x = some n := by
  cases x with
  | l _ => exact ⟨_, rfl⟩
  | d d =>
    cases d with
    | ref n =>
      have h : (match M[n]? with | some (.lst _) => some (decide (t = Ty.list)) | none => none) = some b := h
      show ∃ k, (match M[n]? with | some (.lst _) => some "list" | none => none) = some k
      cases e : M[n]? with
      | none => rw [e] at h; cases h
      | some o => cases o; exact ⟨_, rfl⟩
    | _ => exact ⟨_, rfl⟩
theorem isTys_cons {M : Ar} {x : Rv} {t : Ty} {ts : List Ty} {b : Bool} (h : isTys M x (t :: ts) = some b) : (isTyM M x t = some true ∧ b = true) ∨ (isTyM M x t = some false ∧ isTys M x ts = some b) := by
  have h : (match isTyM M x t with | some true => some true | some false => isTys M x ts | none => none) = some b := h
  cases e : isTyM M x t with
  | none => rw [e] at h; cases h
  | some k =>
    rw [e] at h
    cases k with
    | true => cases h; exact .inl ⟨rfl, rfl⟩
    | false => exact .inr ⟨rfl, h⟩
theorem kitAny_of {K : PySem.W.Frag} {M : Ar} {x : Rv} {n : String} (hn : nameR M x = some n) : ∀ {ts : List Ty} {b : Bool}, isTys M x ts = some b → PySem.W.kitAny K (.type n) (ts.map fun t => Value.type (tyA t)) = some b
  | [], b, h => by cases h; rfl
  | t :: ts, b, h => by
    rcases isTys_cons h with ⟨h1, rfl⟩ | ⟨h1, h2⟩
    · exact kitAny_cons (r := true) (kit_ty (isTy_kit hn h1)) (fun z => nomatch z) fun _ => rfl
    · exact kitAny_cons (kit_ty (isTy_kit hn h1)) (fun _ => kitAny_of hn h2) fun z => nomatch z
theorem tys_pa (ok : XOk G E F N sc ws W X) : ∀ {ts : List Ty} {es : List Expr}, tysB G sc ts es = true → ∃ t : TA, PA X es t ∧ (∀ σ H Q, Q (ts.map fun t => V.ty (tyA t)) H → t σ H Q)
  | [], [], _ => ⟨_, pa_nil, fun σ H Q q => q⟩
  | [], _ :: _, h => by cases h
  | t :: ts, [], h => by cases h
  | t :: ts, e :: es, h => by
    cases e with
    | Name x pos =>
      obtain ⟨h1, h2⟩ := and2 h
      obtain ⟨h2, h3⟩ := and2 h2
      obtain ⟨g1, g2, g3, g4⟩ := freeB_of ok h2
      obtain ⟨u, p, q⟩ := tys_pa ok h3
      have hv : bootBuiltins x = some (.type (tyA t)) := by
        rw [of_decide_eq_true h1]
        cases t <;> first | rfl | decide +kernel
      have pe : PE X (.Name x pos) (tC (.ty (tyA t))) := pe_bltn g1 g4 hv rfl g3 g2
      exact ⟨_, pa_cons pe p (by rfl), fun σ H Q r => q σ H _ r⟩
    | _ => cases h
theorem isin_run {f : Env → Md Rv} {x : Str} {y z : Expr} {ts : List Ty} {p pos : Pos} (ok : XOk G E F N sc ws W X) (hx : x = "isinstance") (hf : freeB G sc x = true) (hy : starE y = false) (hz : isinB G sc ts z = true) (ha : DE E X W y f) :
    DE E X W (.Call (.Name x p) [y, z] [] pos) (sIsin f ts) := by
  obtain ⟨g1, g2, g3, g4⟩ := freeB_of ok hf
  have hv : bootBuiltins x = some (.builtin "isinstance") := by rw [hx]; first | rfl | decide +kernel
  unfold isinB at hz
  cases z with
  | Name x' p' =>
    match ts, hz with
    | [t], hz =>
      obtain ⟨h1, h2⟩ := and2 hz
      obtain ⟨k1, k2, k3, k4⟩ := freeB_of ok h2
      have hv' : bootBuiltins x' = some (.type (tyA t)) := by
        rw [of_decide_eq_true h1]
        cases t <;> first | rfl | decide +kernel
      have pe : PE X (.Name x' p') (tC (.ty (tyA t))) := pe_bltn k1 k4 hv' rfl k3 k2
      have he : starEach [y, .Name x' p'] X.env = (false, eval y X.env) :: starEach [.Name x' p'] X.env := starE_of hy
      refine (pe_callB call_isi g1 g4 hv (pa_cons ha (pa_cons pe pa_nil) he) g3 g2 he (by rfl)).weak fun σ H Q ⟨ι, env, M, rs, S, go⟩ => ⟨ι, env, M, rs, S, go.bnd.mono fun r M1 h1 ι1 v1 H1 e1 rr S1 => ?_⟩
      obtain ⟨b, e, q⟩ := h1.bnd.opt
      rcases isTys_cons e with ⟨h1, rfl⟩ | ⟨h1, h2⟩
      · obtain ⟨n, hn⟩ := name_some h1
        exact ⟨v1, _, _, _, true, rfl, .ty _, tyX_of S1 rr hn, kit_ty (isTy_kit hn h1), GoX.ret q ι1 _ H1 e1 (.bl true) S1⟩
      · cases h2
        obtain ⟨n, hn⟩ := name_some h1
        exact ⟨v1, _, _, _, false, rfl, .ty _, tyX_of S1 rr hn, kit_ty (isTy_kit hn h1), GoX.ret q ι1 _ H1 e1 (.bl false) S1⟩
    | [], hz => cases hz
    | _ :: _ :: _, hz => cases hz
  | Tuple es k p' =>
    obtain ⟨hz, hl⟩ := and2 hz
    have hl := of_decide_eq_true hl
    obtain ⟨t, pt, qt⟩ := tys_pa ok hz
    have he : starEach [y, .Tuple es k p'] X.env = (false, eval y X.env) :: starEach [.Tuple es k p'] X.env := starE_of hy
    refine (pe_callB call_isiT g1 g4 hv (pa_cons ha (pa_cons (pe_tup pt) pa_nil) he) g3 g2 he (by rfl)).weak fun σ H Q ⟨ι, env, M, rs, S, go⟩ => ⟨ι, env, M, rs, S, go.bnd.mono fun r M1 h1 ι1 v1 H1 e1 rr S1 => ?_⟩
    obtain ⟨b, e, q⟩ := h1.bnd.opt
    refine qt σ H1 _ ⟨by rw [List.length_map]; exact Nat.le_trans (Nat.le_of_lt hl) (by show 100 ≤ sizeLine; decide), fun T hT => ?_⟩
    have ex : Ext X.K ι1 H1 ι1 (upd H1 T (.tup (ts.map fun t => V.ty (tyA t)))) := Ext.new hT
    have S2 : Sim X.K ι1 (upd H1 T (.tup (ts.map fun t => V.ty (tyA t)))) M1 := S1.new hT
    have pr : ∀ ts : List Ty, Paired ClsV (ts.map fun t => V.ty (tyA t)) (ts.map fun t => Value.type (tyA t)) := fun ts => by
      induction ts with
      | nil => exact .nil
      | cons t ts ih => exact .cons (.ty _) ih
    have fin := GoX.ret q ι1 (.bl b) _ (e1.trans ex) (.bl b) S2
    cases ts with
    | nil =>
      cases e
      cases r with
      | l _ => exact ⟨v1, T, _, _, _, false, rfl, upd_same, pr [], tyX_of S2 (rr.ext ex) rfl, rfl, fin⟩
      | d d =>
        cases d with
        | ref n =>
          have : ∃ nm, nameR M1 (.d (.ref n)) = some nm := by
            cases (show Rep X.K ι1 H1 v1 (.ref n) from rr) with
            | ref h1 =>
              have hn : n < M1.length := by rw [← S1.len]; exact (List.getElem?_eq_some_iff.mp h1).1
              show ∃ k, (match M1[n]? with | some (.lst _) => some "list" | none => none) = some k
              rw [List.getElem?_eq_getElem hn]
              cases M1[n]
              exact ⟨_, rfl⟩
          obtain ⟨nm, hn⟩ := this
          exact ⟨v1, T, _, _, _, false, rfl, upd_same, pr [], tyX_of S2 (rr.ext ex) hn, rfl, fin⟩
        | _ => exact ⟨v1, T, _, _, _, false, rfl, upd_same, pr [], tyX_of S2 (rr.ext ex) rfl, rfl, fin⟩
    | cons t ts =>
      have : ∃ n, nameR M1 r = some n := by
        rcases isTys_cons e with ⟨h1, _⟩ | ⟨h1, _⟩
        · exact name_some h1
        · exact name_some h1
      obtain ⟨n, hn⟩ := this
      exact ⟨v1, T, _, _, _, b, rfl, upd_same, pr (t :: ts), tyX_of S2 (rr.ext ex) hn, kitAny_of hn e, fin⟩
  | _ => cases hz
def sMeth (m : Mth) (f : Env → Md Rv) (t : Env → Md (List D)) : Env → Md Rv := fun env => bnd (bnd (f env) settle) fun x => bnd (isRefM x) fun _ => bnd (t env) fun xs => method m x xs
theorem meth_weak {m : Mth} {f : Env → Md Rv} {t : Env → Md (List D)} {σ : L2.St} {H : Hp} {Q : VK} (h : liftE E X.K W (sMeth m f t) σ H Q) : tBM X.K "list" (rMt X.K m) (liftE E X.K W f) (liftA E X.K W t) σ H Q := by
  obtain ⟨ι, env, M, rs, S, go⟩ := h
  refine ⟨ι, env, M, rs, S, go.bnd.bnd.mono fun r M1 h1 ι1 v1 H1 e1 rr S1 => ?_⟩
  obtain ⟨d, ι2, M2, h2, e2, rd, S2⟩ := settle_go h1 e1 rr S1
  have isref : ∃ n, d = .ref n ∧ GoX E X.K W σ ι H (bnd (t env) (fun xs => method m d xs) M2) (FinE X.K ι H Q) := by
    cases d with
    | ref n => exact ⟨n, rfl, h2⟩
    | _ => exact False.elim h2
  obtain ⟨n, rfl, h2⟩ := isref
  have h2 := GoX.bnd h2
  refine ⟨?_, ι2, env, M2, rs.ext e2, S2, (h2.later e2).mono fun ds M3 h3 ι3 vs H3 e3 rds S3 => ?_⟩
  · cases rd with
    | ref hr =>
      have hn : n < M2.length := by rw [← S2.len]; exact (List.getElem?_eq_some_iff.mp hr).1
      have ro := S2.ob n _ _ hr (List.getElem?_eq_getElem hn)
      generalize M2[n] = o at ro
      cases o with
      | lst es => obtain ⟨vs, g1, _⟩ := ro; exact Or.inl ⟨rfl, _, Or.inl (Or.inl g1)⟩
  · cases em : method m (.ref n) ds M3 with
    | ok r M4 =>
      rw [em] at h3
      exact ⟨ι3, M3, .ref n, ds, r, M4, rd.ext e3, rds, S3, em, fun H' v e4 rr4 S4 => FinE.go h3 (e2.trans e3) e4 rr4 S4⟩
    | exc c p M4 =>
      exfalso
      unfold method at em
      simp only at em
      split at em
      · split at em
        · split at em <;> cases em
        · split at em <;> cases em
        · cases em
      · cases em
    | stuck => rw [em] at h3; exact False.elim h3
end
end Q
end

section
set_option Elab.async false
set_option linter.all false
set_option maxRecDepth 100000
set_option maxHeartbeats 8000000
namespace Q
open PySem PySem.Spec PyProof.Rows L2
section
variable {G : NX} {E : GX} {F : Nat → List D → Md Rv} {N : List Str} {sc ws : Scope} {W : WX} {X : Cx}
/-- computed, tested, tested as a part of and, or -/
structure Snd (E : GX) (X : Cx) (W : WX) (e : Expr) (f : Env → Md Rv) : Prop where
  de : DE E X W e f
  dt : DT E X W e (asBool f)
  dw : ∀ o vs p, e = .BoolOp o vs p → DW E X W e (asBool f)
theorem Snd.plain {e : Expr} {f : Env → Md Rv} (h : DE E X W e f) (he : ∀ whole, isTrue e X.env whole = (do let v ← whole; standAt e.pos; holding [v] (truthy v))) (hb : ∀ o vs p, e ≠ .BoolOp o vs p) : Snd E X W e f :=
  ⟨h, dt_val h he, fun o vs p z => absurd z (hb o vs p)⟩
theorem Snd.never {e : Expr} : Snd E X W e fun _ => stk :=
  ⟨de_never, ⟨fun pins s σ H Q I ⟨_, _, _, _, _, go⟩ => False.elim go⟩, fun _ _ _ _ => ⟨fun wh pins s σ H Q I ⟨_, _, _, _, _, go⟩ => False.elim go⟩⟩
theorem semRs_len : ∀ (es : Es) (xs : List Expr), cRs G N es sc xs = true → ∀ env M rs M', semRs F es env M = .ok rs M' → rs.length = xs.length
  | .nil, xs, h, env, M, rs, M', e => by
    cases xs with
    | nil => cases e; rfl
    | cons _ _ => cases h
  | .cons t ts, xs, h, env, M, rs, M', e => by
    cases xs with
    | nil => cases h
    | cons x xs =>
      obtain ⟨_, h2⟩ := and2 h
      obtain ⟨_, h2⟩ := and2 h2
      have e : bnd (sem F t env) (fun d => bnd (semRs F ts env) fun ds => ret (d :: ds)) M = .ok rs M' := e
      unfold bnd at e
      cases e1 : sem F t env M with
      | ok d M1 =>
        rw [e1] at e
        simp only at e
        cases e2 : semRs F ts env M1 with
        | ok ds M2 =>
          rw [e2] at e
          cases e
          exact congrArg (· + 1) (semRs_len ts xs h2 env M1 ds _ e2)
        | exc c p M2 => rw [e2] at e; cases e
        | stuck => rw [e2] at e; cases e
      | exc c p M1 => rw [e1] at e; cases e
      | stuck => rw [e1] at e; cases e
  | .star _ _, _, h, _, _, _, _, _ => by cases h
theorem few_of {pos : Pos} {env : PySem.Env} {y : Expr} {r : List Expr} (h4 : (y :: r).all (fun z => !starE z) = true) (h5 : (y :: r).length < 20) :
    ((backTo pos (starEach (y :: r) env)).all (fun x => !x.1) && (backToKw pos (keywordEach [] env)).all (fun x => x.1.isSome) && decide ((y :: r).length + ([] : List Keyword).length + (if ([] : List Keyword).isEmpty then 0 else 1) < 30)) = true := by
  have h := plain_of (pos := pos) (env := env) h4
  have e1 : (backTo pos (starEach (y :: r) env)).all (fun x => !x.1) = true := by
    rw [List.all_eq_not_any_not]
    simp only [Bool.not_not]
    rw [h]; rfl
  rw [e1]
  show decide ((y :: r).length + 0 + 0 < 30) = true
  exact decide_eq_true (by omega)
theorem meth_run (m : Mth) {x : Expr} {args : List Expr} {apos pos : Pos} {a : Tm} {es : Es} (h0 : (match m with | .pop => args.isEmpty | _ => !args.isEmpty) = true) (sa : DE E X W x (sem F a)) (se : DA E X W args (semEs F es)) (h7 : cEs G N es sc args = true)
    (hb : attributeBase x (mthNm m) X.env (eval x X.env) = eval x X.env) (h2 : (apos.endLine == pos.line) = true) (h4 : args.all (fun z => !starE z) = true) (h5 : args.length < 20) : DE E X W (.Call (.Attribute x (mthNm m) apos) args [] pos) (sem F (.meth m a es)) := by
  cases m with
  | pop =>
    cases args with
    | cons _ _ => cases h0
    | nil =>
      have he : es = .nil := by
        cases es with
        | nil => rfl
        | cons _ _ => cases h7
        | star _ _ => cases h7
      subst he
      refine (pe_bm0 PySem.F.plainAttrs_list PySem.F.slot_list_pop PySem.F.type_list_pop (mt_ok .pop) sa hb h2).weak fun σ H Q q => mono_liftE (meth_weak (m := .pop) (f := sem F a) (t := semEs F .nil) q) fun v H1 ⟨z1, ι, env, M, rs, S, go⟩ => ⟨z1, go ι [] H1 Ext.refl .nil S⟩
  | append =>
    cases args with
    | nil => cases h0
    | cons y r =>
      obtain ⟨s1, s2⟩ := and2 (show (!starE y && r.all fun z => !starE z) = true from h4)
      exact (pe_bm PySem.F.plainAttrs_list PySem.F.slot_list_append PySem.F.type_list_append (mt_ok .append) sa se hb (few_of h4 h5) h2 (starE_of (not_t s1)) (plain_of s2)).weak fun σ H Q q => meth_weak q
  | extend =>
    cases args with
    | nil => cases h0
    | cons y r =>
      obtain ⟨s1, s2⟩ := and2 (show (!starE y && r.all fun z => !starE z) = true from h4)
      exact (pe_bm PySem.F.plainAttrs_list PySem.F.slot_list_extend PySem.F.type_list_extend (mt_ok .extend) sa se hb (few_of h4 h5) h2 (starE_of (not_t s1)) (plain_of s2)).weak fun σ H Q q => meth_weak q
mutual
theorem cE_ok : ∀ (t : Tm) {sc ws : Scope} {W : WX} {X : Cx} (e : Expr), XOk G E F N sc ws W X → cE G N t sc e = true → Snd E X W e (sem F t)
  | .never, sc, ws, W, X, e, ok, h => Snd.never
  | .var i, sc, ws, W, X, e, ok, h => by
    cases e with
    | Name x pos =>
      obtain ⟨h1, h2⟩ := and2 h
      obtain ⟨h2, h3⟩ := and2 h2
      obtain ⟨h3, h4⟩ := and2 h3
      refine .plain (de_var (pe_var (by rw [ok.hN]; exact of_decide_eq_true h1) (vis_of ok h2) ?_ ?_)) (fun _ => rfl) (fun _ _ _ z => nomatch z)
      · exact beq_eq_false_iff_ne.mpr (of_decide_eq_true h3)
      · exact beq_eq_false_iff_ne.mpr (of_decide_eq_true h4)
    | _ => cases h
  | .cst d, sc, ws, W, X, e, ok, h => by
    cases e with
    | Constant c j pos =>
      obtain ⟨v, h1, h2⟩ := rep_cst (K := X.K) h (j := j) (pos := pos)
      exact .plain (de_cst (h1 X) h2) (fun _ => rfl) (fun _ _ _ z => nomatch z)
    | Name x pos =>
      obtain ⟨h1, h2⟩ := and2 h
      obtain ⟨g1, g2, g3⟩ := glb_of ok h1
      obtain ⟨u, v, q1, q2, q3⟩ := consts_of ok h2
      exact .plain (de_cst (pe_glob g1 q1 q2 g2) q3) (fun _ => rfl) (fun _ _ _ z => nomatch z)
    | _ => cases h
  | .neg a, sc, ws, W, X, e, ok, h => by
    cases e with
    | UnaryOp op x pos =>
      cases op with
      | USub => exact .plain (de_neg (cE_ok a x ok h).de) (fun _ => rfl) (fun _ _ _ z => nomatch z)
      | _ => cases h
    | _ => cases h
  | .nt a, sc, ws, W, X, e, ok, h => by
    cases e with
    | UnaryOp op x pos =>
      cases op with
      | Not =>
        have s := cE_ok a x ok h
        exact ⟨de_not s.de, dt_not s.dt, fun _ _ _ z => nomatch z⟩
      | _ => cases h
    | _ => cases h
  | .bin o a b, sc, ws, W, X, e, ok, h => by
    cases e with
    | BinOp x p y pos =>
      obtain ⟨h1, h2⟩ := and2 h
      obtain ⟨h2, h3⟩ := and2 h2
      obtain rfl := bopIs_eq h1
      exact .plain (de_bin o (cE_ok a x ok h2).de (cE_ok b y ok h3).de) (fun _ => rfl) (fun _ _ _ z => nomatch z)
    | _ => cases h
  | .cmp o a b, sc, ws, W, X, e, ok, h => by
    cases e with
    | Compare x ops ys pos =>
      match ops, ys, h with
      | [p], [y], h =>
        obtain ⟨h1, h2⟩ := and2 h
        obtain ⟨h2, h3⟩ := and2 h2
        obtain ⟨h3, h4⟩ := and2 h3
        obtain rfl := copIs_eq h1
        have sa := cE_ok a x ok h3
        have sb := cE_ok b y ok h4
        exact ⟨de_cmp ok.room o (mark_of (not_t h2)) sa.de sb.de, dt_cmp ok.room o (mark_of (not_t h2)) sa.de sb.de, fun _ _ _ z => nomatch z⟩
      | [], _, h => cases h
      | [_], [], h => cases h
      | [_], _ :: _ :: _, h => cases h
      | _ :: _ :: _, _, h => cases h
    | _ => cases h
  | .chain o o' a b c, sc, ws, W, X, e, ok, h => by
    cases e with
    | Compare x ops ys pos =>
      match ops, ys, h with
      | [p, p'], [y, z], h =>
        obtain ⟨h1, h2⟩ := and2 h
        obtain ⟨h2, h3⟩ := and2 h2
        obtain ⟨h3, h4⟩ := and2 h3
        obtain ⟨h4, h5⟩ := and2 h4
        obtain ⟨h5, h6⟩ := and2 h5
        obtain ⟨h6, h7⟩ := and2 h6
        obtain rfl := copIs_eq h1
        obtain rfl := copIs_eq h2
        have sa := (cE_ok a x ok h5).de
        have sb := (cE_ok b y ok h6).de
        have sc' := (cE_ok c z ok h7).de
        have hm : lastMarks [copA o, copA o'] [y, z] = false := mark_of (not_t h4)
        have R := pe_chain (pos := pos) (op_cmp ok.room o) (op_cmp ok.room o') sa sb sc' hm
        have T := pt_chain (pos := pos) (op_cmp ok.room o) (op_cmp ok.room o') sa sb sc' hm
        exact ⟨de_chain ok.room o o' (mark_of (not_t h3)) (mark_of (not_t h4)) sa sb sc' R, T.weak fun σ H Q q => chain_weak (bool_weak q), fun _ _ _ z => nomatch z⟩
      | [], _, h => cases h
      | [_], _, h => cases h
      | _ :: _ :: _ :: _, _, h => cases h
      | [_, _], [], h => cases h
      | [_, _], [_], h => cases h
      | [_, _], _ :: _ :: _ :: _, h => cases h
    | _ => cases h
  | .and a b, sc, ws, W, X, e, ok, h => by
    cases e with
    | BoolOp op vs pos =>
      cases op with
      | And =>
        match vs, h with
        | x :: y :: [], h =>
          obtain ⟨h1, h2⟩ := and2 h
          have sa := cE_ok a x ok h1
          have sb := cE_ok b y ok h2
          have dw : DW E X W (.BoolOp .And [x, y] pos) (asBool (sAnd (sem F a) (sem F b))) := dw_and sa.dt (pw_and1 sb.dt)
          exact ⟨de_and sa.de (pe_one sb.de), dw.pt, fun _ _ _ _ => dw⟩
        | x :: y :: z :: r, h =>
          obtain ⟨h1, h2⟩ := and2 h
          have sa := cE_ok a x ok h1
          have sb := cE_ok b (.BoolOp .And (y :: z :: r) pos) ok h2
          have dw : DW E X W (.BoolOp .And (x :: y :: z :: r) pos) (asBool (sAnd (sem F a) (sem F b))) := dw_and sa.dt (sb.dw _ _ _ rfl)
          exact ⟨de_and sa.de sb.de, dw.pt, fun _ _ _ _ => dw⟩
        | [], h => cases h
        | [_], h => cases h
      | Or => cases h
    | _ => cases h
  | .or a b, sc, ws, W, X, e, ok, h => by
    cases e with
    | BoolOp op vs pos =>
      cases op with
      | Or =>
        match vs, h with
        | x :: y :: [], h =>
          obtain ⟨h1, h2⟩ := and2 h
          have sa := cE_ok a x ok h1
          have sb := cE_ok b y ok h2
          have dw : DW E X W (.BoolOp .Or [x, y] pos) (asBool (sOr (sem F a) (sem F b))) := dw_or sa.dt (pw_or1 sb.dt)
          exact ⟨de_or sa.de (pe_one sb.de), dw.pt, fun _ _ _ _ => dw⟩
        | x :: y :: z :: r, h =>
          obtain ⟨h1, h2⟩ := and2 h
          have sa := cE_ok a x ok h1
          have sb := cE_ok b (.BoolOp .Or (y :: z :: r) pos) ok h2
          have dw : DW E X W (.BoolOp .Or (x :: y :: z :: r) pos) (asBool (sOr (sem F a) (sem F b))) := dw_or sa.dt (sb.dw _ _ _ rfl)
          exact ⟨de_or sa.de sb.de, dw.pt, fun _ _ _ _ => dw⟩
        | [], h => cases h
        | [_], h => cases h
      | And => cases h
    | _ => cases h
  | .ite c a b, sc, ws, W, X, e, ok, h => by
    cases e with
    | IfExp x y z pos =>
      obtain ⟨h1, h2⟩ := and2 h
      obtain ⟨h2, h3⟩ := and2 h2
      have s1 := cE_ok c x ok h1
      have s2 := cE_ok a y ok h2
      have s3 := cE_ok b z ok h3
      exact ⟨de_ite s1.dt s2.de s3.de, dt_ite s1.dt s2.dt s3.dt, fun _ _ _ z => nomatch z⟩
    | _ => cases h
  | .tup es, sc, ws, W, X, e, ok, h => by
    cases e with
    | Tuple xs k pos => exact .plain (de_tup (cEs_ok es xs ok h)) (fun _ => rfl) (fun _ _ _ z => nomatch z)
    | _ => cases h
  | .lst es, sc, ws, W, X, e, ok, h => by
    cases e with
    | List xs pos => exact .plain (de_lst (cEs_ok es xs ok h)) (fun _ => rfl) (fun _ _ _ z => nomatch z)
    | _ => cases h
  | .idx a b, sc, ws, W, X, e, ok, h => by
    cases e with
    | Subscript x y pos =>
      obtain ⟨h1, h2⟩ := and2 h
      obtain ⟨h2, h3⟩ := and2 h2
      exact .plain (de_idx (plainIx_of (not_t h1)) (cE_ok a x ok h2).de (cE_ok b y ok h3).de) (fun _ => rfl) (fun _ _ _ z => nomatch z)
    | _ => cases h
  | .slc a lo hi, sc, ws, W, X, e, ok, h => by
    cases e with
    | Subscript x y pos =>
      cases y with
      | Slice l u st p2 =>
        cases st with
        | none =>
          obtain ⟨h1, h2⟩ := and2 h
          obtain ⟨h2, h3⟩ := and2 h2
          have abs : ∀ {t : Tm}, isAbs t = true → t = .cst .non := fun {t} z => by
            cases t with
            | cst d => cases d <;> first | rfl | cases z
            | _ => cases z
          have dl : PO X l (liftP E X.K W fun env => bnd (sem F lo env) (partM (isAbs lo))) := by
            cases l with
            | none =>
              rw [abs h2]
              exact dp_none
            | some l =>
              obtain ⟨g1, g2⟩ := and2 h2
              rw [not_t g1]
              exact dp_some (cE_ok lo l ok g2).de
          have dh : PO X u (liftP E X.K W fun env => bnd (sem F hi env) (partM (isAbs hi))) := by
            cases u with
            | none =>
              rw [abs h3]
              exact dp_none
            | some u =>
              obtain ⟨g1, g2⟩ := and2 h3
              rw [not_t g1]
              exact dp_some (cE_ok hi u ok g2).de
          exact .plain (de_slc (cE_ok a x ok h1).de dl dh) (fun _ => rfl) (fun _ _ _ z => nomatch z)
        | some _ => cases h
      | _ => cases h
    | _ => cases h
  | .call f es, sc, ws, W, X, e, ok, h => by
    cases e with
    | Call fn args kws pos =>
      cases fn with
      | Name x p =>
        match args, kws, h with
        | a :: r, [], h =>
          obtain ⟨h1, h2⟩ := and2 h
          obtain ⟨h2, h3⟩ := and2 h2
          obtain ⟨h3, h4⟩ := and2 h3
          exact .plain (de_call ok h1 h2 h3 (cEs_ok es (a :: r) ok h4)) (fun _ => rfl) (fun _ _ _ z => nomatch z)
        | [], _, h => cases h
        | _ :: _, _ :: _, h => cases h
      | _ => cases h
    | _ => cases h
  | .blt b es, sc, ws, W, X, e, ok, h => by
    cases e with
    | Call fn args kws pos =>
      cases fn with
      | Name x p =>
        match args, kws, h with
        | a :: r, [], h =>
          obtain ⟨h1, h2⟩ := and2 h
          obtain ⟨h2, h3⟩ := and2 h2
          exact .plain (de_blt ok h1 h2 (cRs_ok es (a :: r) ok h3)) (fun _ => rfl) (fun _ _ _ z => nomatch z)
        | [], _, h => cases h
        | _ :: _, _ :: _, h => cases h
      | _ => cases h
    | _ => cases h
  | .isin a ts, sc, ws, W, X, e, ok, h => by
    cases e with
    | Call fn args kws pos =>
      cases fn with
      | Name x p =>
        match args, kws, h with
        | [y, z], [], h =>
          obtain ⟨h1, h2⟩ := and2 h
          obtain ⟨h2, h3⟩ := and2 h2
          obtain ⟨h3, h4⟩ := and2 h3
          obtain ⟨h4, h5⟩ := and2 h4
          exact .plain (isin_run ok (of_decide_eq_true h1) h2 (not_t h3) h4 (cE_ok a y ok h5).de) (fun _ => rfl) (fun _ _ _ z => nomatch z)
        | [], _, h => cases h
        | [_], _, h => cases h
        | [_, _], _ :: _, h => cases h
        | _ :: _ :: _ :: _, _, h => cases h
      | _ => cases h
    | _ => cases h
  | .comp own it g c elt, sc, ws, W, X, e, ok, h => by
    have h : (match unComp e with
      | some (x, tg, iter, ifs, scope) => blkC N sc scope (ownN N own) && (g.slots.all (fun i => decide (i ∈ own)) && (!setE iter && (cI G N it sc tg iter && (cG N (relS scope sc) scope g tg && ((match ifs with
        | [] => isTrueT c
        | [y] => cE G N c (relS scope sc) y
        | _ => false) && cE G N elt (relS scope sc) x)))))
      | none => false) = true := h
    cases eu : unComp e with
    | none => rw [eu] at h; cases h
    | some q =>
      obtain ⟨x, tg, iter, ifs, scope⟩ := q
      rw [eu] at h
      obtain ⟨pos, rfl⟩ : ∃ pos, e = .ListComp x [⟨tg, iter, ifs, 0⟩] scope pos := by
        unfold unComp at eu
        split at eu
        · cases eu; exact ⟨_, rfl⟩
        · cases eu
      obtain ⟨h1, h⟩ := and2 h
      obtain ⟨h2, h⟩ := and2 h
      obtain ⟨h3, h⟩ := and2 h
      obtain ⟨h4, h⟩ := and2 h
      obtain ⟨h5, h⟩ := and2 h
      obtain ⟨h6, h7⟩ := and2 h
      have bo : BlkOk X.N X.env.scope scope (ownN N own) := by rw [ok.hN, ok.hsc]; exact blkOk_by h1
      have hs : ∀ v, foldedSetIterable iter X.env v = pure v := fun v => by cases iter <;> first | rfl | (cases (not_t h3); done)
      have own2 : (ownN N own).map (·.2) = own := by
        unfold ownN
        rw [List.map_map]
        exact List.map_id _
      have parts : ∃ tt : TT, (∀ (s : Shared) (H : Hp) (C : Addr) (cl : List (Str × Addr)) (fp : List Addr), PTs (X.blk s H scope (compEnvC scope cl C X.env) fp) ifs tt) ∧ ∀ σ H Q, liftB E X.K W0 (asBool (sem F c)) σ H Q → tt σ H Q := by
        match ifs, h6 with
        | [], h6 =>
          refine ⟨tYes, fun _ _ _ _ _ => pts_nil, fun σ H Q q => ?_⟩
          have hc : c = .cst (.bl true) := by
            cases c with
            | cst d =>
              cases d with
              | bl b => cases b <;> first | rfl | cases h6
              | _ => cases h6
            | _ => cases h6
          subst hc
          obtain ⟨ι, env, M, rs, S, go⟩ := q
          exact go ι H Ext.refl S
        | [y], h6 => exact ⟨_, fun s H C cl fp => pts_one (cE_ok c y (ok.blk scope s H C cl fp) h6).dt, fun σ H Q q => q⟩
        | _ :: _ :: _, h6 => cases h6
      obtain ⟨tt, ht, htt⟩ := parts
      have hN : X.N.Nodup := by rw [ok.hN]; exact ok.nd
      have R := pe_lc (pos := pos) (te := liftE E X.K W0 (sem F elt)) (g := liftG X.K g) (wi := liftI E X.K W (semIt F it)) ok.calm hN (cI_ok it tg iter ok h4) bo (fun s H C cl fp => cG_ok (ok.blk scope s H C cl fp) g tg h5) ht (fun s H C cl fp => (cE_ok elt x (ok.blk scope s H C cl fp) h7).de) hs
      rw [own2] at R
      have hg : ∀ i ∈ g.slots, i ∈ own := fun i hi => of_decide_eq_true (List.all_eq_true.mp h2 i hi)
      exact .plain (R.weak fun σ H Q q => comp_weak hg htt q) (fun _ => rfl) (fun _ _ _ z => nomatch z)
  | .meth m a es, sc, ws, W, X, e, ok, h => by
    cases e with
    | Call fn args kws pos =>
      cases fn with
      | Attribute x nm apos =>
        cases kws with
        | nil =>
          obtain ⟨h1, h⟩ := and2 h
          obtain ⟨h0, h⟩ := and2 h
          obtain ⟨h2, h⟩ := and2 h
          obtain ⟨h3, h⟩ := and2 h
          obtain ⟨h4, h⟩ := and2 h
          obtain ⟨h5, h⟩ := and2 h
          obtain ⟨h6, h7⟩ := and2 h
          have h1 := of_decide_eq_true h1
          have h2 : (apos.endLine == pos.line) = true := beq_iff_eq.mpr (Nat.eq_of_beq_eq_true h2)
          have h5 := of_decide_eq_true h5
          have sa := (cE_ok a x ok h6).de
          have se := cEs_ok es args ok h7
          have hb : attributeBase x nm X.env (eval x X.env) = eval x X.env := by
            cases x <;> first | rfl | (cases (not_t h3); done)
          obtain rfl := h1
          refine .plain ?_ (fun _ => rfl) (fun _ _ _ z => nomatch z)
          exact meth_run m h0 sa se h7 hb h2 h4 h5
        | cons _ _ => cases args <;> cases h
      | _ => cases h
    | _ => cases h
theorem cEs_ok : ∀ (es : Es) {sc ws : Scope} {W : WX} {X : Cx} (xs : List Expr), XOk G E F N sc ws W X → cEs G N es sc xs = true → DA E X W xs (semEs F es)
  | .nil, sc, ws, W, X, xs, ok, h => by
    cases xs with
    | nil => exact da_nil
    | cons _ _ => cases h
  | .cons t ts, sc, ws, W, X, xs, ok, h => by
    cases xs with
    | nil => cases h
    | cons x xs =>
      obtain ⟨h1, h2⟩ := and2 h
      obtain ⟨h2, h3⟩ := and2 h2
      exact da_cons (cE_ok t x ok h2).de (cEs_ok ts xs ok h3) (starE_of (not_t h1))
  | .star t ts, sc, ws, W, X, xs, ok, h => by
    cases xs with
    | nil => cases h
    | cons x xs =>
      cases x with
      | Starred e p =>
        obtain ⟨h2, h3⟩ := and2 h
        exact da_star (cE_ok t e ok h2).de (cEs_ok ts xs ok h3)
      | _ => cases h
theorem cRs_ok : ∀ (es : Es) {sc ws : Scope} {W : WX} {X : Cx} (xs : List Expr), XOk G E F N sc ws W X → cRs G N es sc xs = true → DR E X W xs (semRs F es)
  | .nil, sc, ws, W, X, xs, ok, h => by
    cases xs with
    | nil => exact dr_nil
    | cons _ _ => cases h
  | .cons t ts, sc, ws, W, X, xs, ok, h => by
    cases xs with
    | nil => cases h
    | cons x xs =>
      obtain ⟨h1, h2⟩ := and2 h
      obtain ⟨h2, h3⟩ := and2 h2
      exact dr_cons (cE_ok t x ok h2).de (cRs_ok ts xs ok h3) (starE_of (not_t h1))
  | .star _ _, sc, ws, W, X, xs, ok, h => by cases h
theorem cI_ok : ∀ (it : Itm) {sc ws : Scope} {W : WX} {X : Cx} (tg e : Expr), XOk G E F N sc ws W X → cI G N it sc tg e = true → DI E X W tg e (semIt F it)
  | .seq a, sc, ws, W, X, tg, e, ok, h => di_seq (cE_ok a e ok h).de
  | .rng es, sc, ws, W, X, tg, e, ok, h => by
    cases e with
    | Call fn args kws pos =>
      cases fn with
      | Name x p =>
        cases kws with
        | nil =>
          obtain ⟨h1, h⟩ := and2 h
          obtain ⟨h2, h⟩ := and2 h
          obtain ⟨h3, h⟩ := and2 h
          obtain ⟨h4, h5⟩ := and2 h
          obtain rfl := of_decide_eq_true h1
          obtain ⟨g1, g2, g3, g4⟩ := freeB_of ok h2
          have sr := cRs_ok es args ok h5
          have hl := semRs_len (F := F) es args h5
          match args, of_decide_eq_true h3, h4, sr, hl with
          | [a], _, h4, sr, hl =>
            obtain ⟨s1, _⟩ := and2 (show (!starE a && true) = true from h4)
            exact di_rng1 g1 g4 sr (starE_of (not_t s1)) fun env M xs M' e => hl env M xs M' e
          | [a, b], _, h4, sr, hl =>
            obtain ⟨s1, s2⟩ := and2 (show (!starE a && (!starE b && true)) = true from h4)
            obtain ⟨s2, _⟩ := and2 s2
            have e2 : starEach [b] X.env = [(false, eval b X.env)] := starE_of (not_t s2)
            refine di_rng2 g1 g4 sr ?_ e2 fun env M xs M' e => hl env M xs M' e
            rw [starE_of (not_t s1), e2]
          | [], h3, _, _, _ => exact absurd h3 (by decide)
          | _ :: _ :: _ :: r, h3, _, _, _ => exact absurd h3 (by simp)
        | cons _ _ => cases args <;> cases h
      | _ => cases h
    | _ => cases h
  | .zip a b, sc, ws, W, X, tg, e, ok, h => by
    cases e with
    | Call fn args kws pos =>
      cases fn with
      | Name x p =>
        match args, kws, h with
        | [y, z], [], h =>
          obtain ⟨h1, h⟩ := and2 h
          obtain ⟨h2, h⟩ := and2 h
          obtain ⟨h3, h⟩ := and2 h
          obtain ⟨h4, h⟩ := and2 h
          obtain ⟨h5, h⟩ := and2 h
          obtain ⟨h6, h7⟩ := and2 h
          obtain rfl := of_decide_eq_true h1
          obtain ⟨g1, g2, g3, g4⟩ := freeB_of ok h2
          cases tg with
          | Tuple elts kk tpos => exact di_zip g1 g4 (cE_ok a y ok h6).de (cE_ok b z ok h7).de (starE_of (not_t h4)) (starE_of (not_t h5))
          | _ => cases h3
        | [], _, h => cases h
        | [_], _, h => cases h
        | [_, _], _ :: _, h => cases h
        | _ :: _ :: _ :: _, _, h => cases h
      | _ => cases h
    | _ => cases h
  | .enum a, sc, ws, W, X, tg, e, ok, h => by
    cases e with
    | Call fn args kws pos =>
      cases fn with
      | Name x p =>
        match args, kws, h with
        | [y], [], h =>
          obtain ⟨h1, h⟩ := and2 h
          obtain ⟨h2, h⟩ := and2 h
          obtain ⟨h3, h⟩ := and2 h
          obtain ⟨h4, h5⟩ := and2 h
          obtain rfl := of_decide_eq_true h1
          obtain ⟨g1, g2, g3, g4⟩ := freeB_of ok h2
          cases tg with
          | Tuple elts kk tpos => exact di_enum g1 g4 (cE_ok a y ok h5).de (starE_of (not_t h4))
          | _ => cases h3
        | [], _, h => cases h
        | [_], _ :: _, h => cases h
        | _ :: _ :: _, _, h => cases h
      | _ => cases h
    | _ => cases h
end
end
end Q
end

section
set_option Elab.async false
set_option linter.all false
set_option maxRecDepth 100000
set_option maxHeartbeats 8000000
/-! Statements, defs, texts. -/
namespace Q
open PySem PySem.Spec PyProof.Rows L2
/-- does the new list of a comprehension take its name's place at once -/
def swp (sc : Scope) (t : Str) (tp p : Pos) (s : Scope) : Bool := sc.names.lookup t == some NameKind.local && tp.line == p.line && !(s.names.any fun (n, k) => n == t && (k == .local || k == .cell))
def compE : Expr → Bool
  | .ListComp _ _ _ _ => true
  | .SetComp _ _ _ _ => true
  | .DictComp _ _ _ _ _ => true
  | _ => false
theorem sw_no {e : Expr} {tg : Option Expr} {l : Nat} {env : PySem.Env} (h : compE e = false) : swapsWith e tg l env = pure false := by cases e <;> first | rfl | cases h
theorem sw_comp {elt : Expr} {gs : List Comprehension} {s : Scope} {p tp : Pos} {t : Str} {l : Nat} {env : PySem.Env} {sc : Scope} (hk : env.scope.kind = .function) (hs : env.scope = sc) (h : swp sc t tp p s = false) : swapsWith (.ListComp elt gs s p) (some (.Name t tp)) l env = pure false := by
  have hb : env.blockKind = .function := by unfold Env.blockKind; rw [hk]; rfl
  have e : swapsWith (.ListComp elt gs s p) (some (.Name t tp)) l env = pure (env.blockKind == .function && env.kindOf t == some .local && tp.line == p.line && !(s.names.any fun (n, k) => n == t && (k == .local || k == .cell))) := rfl
  rw [e, hb]
  unfold swp at h
  have hq : env.kindOf t = sc.names.lookup t := by unfold Env.kindOf; rw [hs]
  rw [hq]
  rw [show (ScopeKind.function == ScopeKind.function) = true from rfl, Bool.true_and, h]
/-- the names that are stored from the right; none: in order -/
def swNames (sc : Scope) (ts : List Expr) : List Str := ts.filterMap fun
  | .Name id pos => if (sc.names.lookup id == some NameKind.local && pos.line == (Option.map (fun x : Expr => x.pos.line) ts.head?).getD 0) = true then some id else none
  | _ => none
def sw1 (ts vs : List Expr) : Bool := !(ts.length == 2 || ts.length == 3) || vs.length != ts.length || ScopeKind.function != ScopeKind.function
def sw2 (vs : List Expr) : Bool := vs.any fun | .Starred .. => true | _ => false
def sw3 (sc : Scope) (ts : List Expr) : Bool := (swNames sc ts).length != ts.length || (swNames sc ts).eraseDups.length != (swNames sc ts).length
def swS (sc : Scope) (ts vs : List Expr) : Option (Option (List Str)) :=
  if sw1 ts vs = true then some none else if sw2 vs = true then some none else if sw3 sc ts = true then some none else
  if vs.all (foldedForSure 8) = true then some none else
  if vs.all (constantsAlone 8) = true then none else some (some (swNames sc ts))
theorem sw_eq {env : PySem.Env} {sc : Scope} {ts vs : List Expr} {k k2 : Nat} {p p2 : Pos} {r : Option (List Str)} (hk : env.scope.kind = .function) (hs : env.scope = sc) (h : swS sc ts vs = some r) : swappedStores [.Tuple ts k p] (.Tuple vs k2 p2) env = pure r := by
  have hb : env.blockKind = .function := by unfold Env.blockKind; rw [hk]; rfl
  subst hs
  unfold swS at h
  unfold swappedStores
  simp only [hb]
  show (if sw1 ts vs = true then pure none else if sw2 vs = true then pure none else if sw3 env.scope ts = true then pure none else
    if vs.all (foldedForSure 8) = true then pure none else
    if vs.all (constantsAlone 8) = true then (do unsupported "assign.tuple-of-constant-expressions:order-of-the-stores"; pure (some (swNames env.scope ts))) else (pure (some (swNames env.scope ts)) : Sem (Option (List Str)))) = pure r
  by_cases c1 : sw1 ts vs = true
  · rw [if_pos c1] at h ⊢; cases h; rfl
  rw [if_neg c1] at h ⊢
  by_cases c2 : sw2 vs = true
  · rw [if_pos c2] at h ⊢; cases h; rfl
  rw [if_neg c2] at h ⊢
  by_cases c3 : sw3 env.scope ts = true
  · rw [if_pos c3] at h ⊢; cases h; rfl
  rw [if_neg c3] at h ⊢
  by_cases c4 : vs.all (foldedForSure 8) = true
  · rw [if_pos c4] at h ⊢; cases h; rfl
  rw [if_neg c4] at h ⊢
  by_cases c5 : vs.all (constantsAlone 8) = true
  · rw [if_pos c5] at h; cases h
  rw [if_neg c5] at h ⊢; cases h; rfl

/-! ### the look at statements -/
def compT : Tm → Bool
  | .comp _ _ _ _ _ => true
  | _ => false
/-- is the store's order that of the page -/
def asgB (sc : Scope) (tg e : Expr) (t : Tm) : Bool := match tg with
  | .Name _ _ => !compE e || (compT t && match e with
    | .ListComp _ _ _ _ => true
    | _ => false)
  | .Tuple ts _ _ => match e with
    | .Tuple vs _ _ => (match swS sc ts vs with
      | some none => true
      | _ => false)
    | e => !compE e
  | _ => false
def docE : Expr → Bool
  | .Constant (.str _) _ _ => true
  | _ => false
def parB (N : List Str) (sc : Scope) (js : List Nat) (ts vs : List Expr) : Bool :=
  match js, ts, vs with
  | [i, j], [.Name x _, .Name y _], [_, _] => decide (N[i]? = some x) && (decide (N[j]? = some y) && (decide (i ≠ j) && (decide (sc.names.lookup x = some .local) && (decide (sc.names.lookup y = some .local) && decide (swS sc ts vs = some (some [x, y]))))))
  | [i, j, k], [.Name x _, .Name y _, .Name z _], [_, _, _] => decide (N[i]? = some x) && (decide (N[j]? = some y) && (decide (N[k]? = some z) && (decide (i ≠ j) && (decide (i ≠ k) && (decide (j ≠ k) && (decide (sc.names.lookup x = some .local) && (decide (sc.names.lookup y = some .local) && (decide (sc.names.lookup z = some .local) && decide (swS sc ts vs = some (some [x, y, z]))))))))))
  | _, _, _ => false
section
variable {G : NX} {E : GX} {F : Nat → List D → Md Rv} {N : List Str} {sc : Scope} {W : WX} {X : Cx} {fuel : Nat}
theorem plainAssign_of {y : Expr} (h : sliceE y = false) (x : Expr) (p : Pos) (env : PySem.Env) (v : Value) : assign (.Subscript x y p) env v = (do
      let ov ← holding [v] (eval x env)
      let iv ← holding [v, ov] (eval y env)
      standAt p
      holding [v, ov, iv] (setItem ov iv v)
      release [v, ov, iv] []) := by cases y <;> first | rfl | cases h
theorem setc_ok (fw : Free W) (ok : XOk G E F N sc sc W X) {i : Nat} {y : Str} {py spos p : Pos} {x : Expr} {gs : List Comprehension} {scope : Scope} {t : Tm} (hk : X.env.scope.kind = .function) (h1 : cG N sc sc (.nm i) (.Name y py) = true) (h2 : cE G N t sc (.ListComp x gs scope p) = true) (h3 : compT t = true) (h4 : swp sc y py p scope = true) :
    DS E X W (.Assign [.Name y py] (.ListComp x gs scope p) spos) (sAsg (.nm i) (sem F t)) := by
  cases t with
  | comp own it g c elt =>
    have h2 : (match unComp (.ListComp x gs scope p) with
      | some (x, tg, iter, ifs, scope) => blkC N sc scope (ownN N own) && (g.slots.all (fun i => decide (i ∈ own)) && (!setE iter && (cI G N it sc tg iter && (cG N (relS scope sc) scope g tg && ((match ifs with
        | [] => isTrueT c
        | [y] => cE G N c (relS scope sc) y
        | _ => false) && cE G N elt (relS scope sc) x)))))
      | none => false) = true := h2
    cases eu : unComp (.ListComp x gs scope p) with
    | none => rw [eu] at h2; cases h2
    | some q =>
      obtain ⟨x', tg, iter, ifs, scope'⟩ := q
      rw [eu] at h2
      obtain ⟨rfl, rfl, rfl⟩ : x' = x ∧ gs = [⟨tg, iter, ifs, 0⟩] ∧ scope' = scope := by
        unfold unComp at eu
        split at eu
        · rename_i e1 e2 e3 e4 e5 e6 e7
          cases e7; cases eu; exact ⟨rfl, rfl, rfl⟩
        · cases eu
      have h := h2
      obtain ⟨h1', h⟩ := and2 h
      obtain ⟨h2', h⟩ := and2 h
      obtain ⟨h3', h⟩ := and2 h
      obtain ⟨h4', h⟩ := and2 h
      obtain ⟨h5', h⟩ := and2 h
      obtain ⟨h6', h7'⟩ := and2 h
      have bo : BlkOk X.N X.env.scope scope' (ownN N own) := by rw [ok.hN, ok.hsc]; exact blkOk_by h1'
      have hs : ∀ v, foldedSetIterable iter X.env v = pure v := fun v => by cases iter <;> first | rfl | (cases (not_t h3'); done)
      have own2 : (ownN N own).map (·.2) = own := by
        unfold ownN
        rw [List.map_map]
        exact List.map_id _
      have parts : ∃ tt : TT, (∀ (s : Shared) (H : Hp) (C : Addr) (cl : List (Str × Addr)) (fp : List Addr), PTs (X.blk s H scope' (compEnvC scope' cl C X.env) fp) ifs tt) ∧ ∀ σ H Q, liftB E X.K W0 (asBool (sem F c)) σ H Q → tt σ H Q := by
        match ifs, h6' with
        | [], h6' =>
          refine ⟨tYes, fun _ _ _ _ _ => pts_nil, fun σ H Q q => ?_⟩
          have hc : c = .cst (.bl true) := by
            cases c with
            | cst d =>
              cases d with
              | bl b => cases b <;> first | rfl | cases h6'
              | _ => cases h6'
            | _ => cases h6'
          subst hc
          obtain ⟨ι, env, M, rs, S, go⟩ := q
          exact go ι H Ext.refl S
        | [y], h6' => exact ⟨_, fun s H C cl fp => pts_one (cE_ok c y (ok.blk scope' s H C cl fp) h6').dt, fun σ H Q q => q⟩
        | _ :: _ :: _, h6' => cases h6'
      obtain ⟨tt, ht, htt⟩ := parts
      have hN : X.N.Nodup := by rw [ok.hN]; exact ok.nd
      have hg : ∀ i ∈ g.slots, i ∈ own := fun i hi => of_decide_eq_true (List.all_eq_true.mp h2' i hi)
      obtain ⟨hi1, hl1⟩ := and2 h1
      obtain ⟨w1, w2⟩ := and2 h4
      obtain ⟨w0, w1⟩ := and2 w1
      have w0 := eq_of_beq w0
      have hyl : X.env.scope.names.lookup y = some .local := by rw [ok.hsc]; exact w0
      have R := ps_setLc (spos := spos) (te := liftE E X.K W0 (sem F elt)) (g := liftG X.K g) (wi := liftI E X.K W (semIt F it)) ok.calm hN (by rw [ok.hN]; exact of_decide_eq_true hi1) hyl
        (sw_true hk hyl w1 (by simpa using w2)) (cI_ok it tg iter ok h4') bo (fun s H C cl fp => cG_ok (ok.blk scope' s H C cl fp) g tg h5') ht (fun s H C cl fp => (cE_ok elt x' (ok.blk scope' s H C cl fp) h7').de) hs
      rw [own2] at R
      have hlen : i < X.N.length := by rw [ok.hN]; exact (List.getElem?_eq_some_iff.mp (of_decide_eq_true hi1)).1
      refine R.weakN fun D σ H hl q => ?_
      refine comp_weak hg htt ?_
      have q1 := asg_weak (G := E) (te := liftE E X.K W (sem F (.comp own it g c elt))) (fun _ _ _ z => z) q
      exact mono_liftE q1 fun v H1 z => by
        obtain ⟨ι, env, d, env', rs, rd, et, hh⟩ := z
        cases et
        exact hh _ (rs.set rd (by rw [hl]; exact hlen)) ⟨by simp, fun j hj => List.getElem?_set_ne (fun z => hj (by simp [Tg.slots, z]))⟩
  | _ => cases h3
end
end Q
end

section
set_option Elab.async false
set_option linter.all false
set_option maxRecDepth 100000
set_option maxHeartbeats 4000000
/-! Statements: the look and its proof. -/
namespace Q
open PySem PySem.Spec PyProof.Rows L2
def unA : Stmt → Option (Expr × Expr × Pos)
  | .Assign ts e pos => (match ts with
    | [tg] => some (tg, e, pos)
    | _ => none)
  | _ => none
def unT : Expr → Option (List Expr × Nat × Pos)
  | .Tuple ts k p => some (ts, k, p)
  | _ => none
def unSub : Expr → Option (Expr × Expr × Pos)
  | .Subscript x y p => some (x, y, p)
  | _ => none
theorem unA_eq {s : Stmt} {tg e : Expr} {pos : Pos} (h : unA s = some (tg, e, pos)) : s = .Assign [tg] e pos := by
  cases s with
  | Assign ts e' p =>
    cases ts with
    | nil => cases h
    | cons t r =>
      cases r with
      | nil => cases h; rfl
      | cons _ _ => cases h
  | _ => cases h
theorem unT_eq {e : Expr} {ts : List Expr} {k : Nat} {p : Pos} (h : unT e = some (ts, k, p)) : e = .Tuple ts k p := by
  cases e with
  | Tuple _ _ _ => cases h; rfl
  | _ => cases h
theorem unSub_eq {e x y : Expr} {p : Pos} (h : unSub e = some (x, y, p)) : e = .Subscript x y p := by
  cases e with
  | Subscript _ _ _ => cases h; rfl
  | _ => cases h
section
variable (G : NX) (N : List Str) (sc : Scope)
mutual
def cS : Stm → Stmt → Bool
  | .never, _ => true
  | .asg g t, s => match unA s with
    | some (tg, e, _) => cG N sc sc g tg && (cE G N t sc e && asgB sc tg e t)
    | none => false
  | .par js es, s => match unA s with
    | some (tg, e, _) => (match unT tg with
      | some (ts, _, _) => (match unT e with
        | some (vs, _, _) => parB N sc js ts vs && cEs G N es sc vs
        | none => false)
      | none => false)
    | none => false
  | .put a i t, s => match unA s with
    | some (tg, e, _) => (match unSub tg with
      | some (x, y, _) => !sliceE y && (!compE e && (cE G N a sc x && (cE G N i sc y && cE G N t sc e)))
      | none => false)
    | none => false
  | .expr t, s => match s with
    | .Expr e _ => !compE e && cE G N t sc e
    | _ => false
  | .ret t, s => match s with
    | .Return r _ => (match r with
      | some e => cE G N t sc e
      | none => false)
    | _ => false
  | .retN, s => match s with
    | .Return r _ => r.isNone
    | _ => false
  | .ite c a b, s => match s with
    | .If x y z _ => cE G N c sc x && (cSs a y && cSs b z)
    | _ => false
  | .for_ it g b, s => match s with
    | .For tg iter body els _ => els.isEmpty && (!setE iter && (cI G N it sc tg iter && (cG N sc sc g tg && cSs b body)))
    | _ => false
  | .while_ c b, s => match s with
    | .While x body els _ => els.isEmpty && (cE G N c sc x && cSs b body)
    | _ => false
  | .pass, s => match s with
    | .Pass _ => true
    | .Expr e _ => docE e
    | _ => false
  | .brk, s => match s with
    | .Break _ => true
    | _ => false
  | .cont, s => match s with
    | .Continue _ => true
    | _ => false
def cSs : Stms → List Stmt → Bool
  | .nil, ss => ss.isEmpty
  | .cons s r, ss => match ss with
    | x :: xs => cS s x && cSs r xs
    | [] => false
end
end
section
variable {G : NX} {E : GX} {F : Nat → List D → Md Rv} {N : List Str} {sc : Scope} {W : WX} {X : Cx} {fuel : Nat}
theorem sole_no {e tg : Expr} {l : Nat} {env : PySem.Env} (h : compE e = false) : swapsWithSole [tg] e l env = pure false := (show swapsWithSole [tg] e l env = swapsWith e (some tg) l env from rfl).trans (sw_no h)
theorem store_no2 {e tg : Expr} {env : PySem.Env} (h : unT e = none) : swappedStores [tg] e env = pure none := by
  cases e with
  | Tuple _ _ _ => cases h
  | _ => cases tg <;> rfl
theorem asg_ok (fw : Free W) (ok : XOk G E F N sc sc W X) (hk : X.env.scope.kind = .function) {g : Tg} {t : Tm} {tg e : Expr} {pos : Pos} (h1 : cG N sc sc g tg = true) (h2 : cE G N t sc e = true) (h3 : asgB sc tg e t = true) : DS E X W (.Assign [tg] e pos) (sAsg g (sem F t)) := by
  have pg := cG_ok ok g tg h1
  have pe := (cE_ok t e ok h2).de
  cases tg with
  | Name y py =>
    have hone : (assignEach [.Name y py] X.env).map (·.2) = [assign (.Name y py) X.env] := rfl
    by_cases hc : compE e = false
    · exact ds_asg (sole_no hc) (by cases e <;> rfl) hone pe pg
    · have hc : compE e = true := by cases q : compE e with
        | true => rfl
        | false => exact absurd q hc
      unfold asgB at h3
      simp only at h3
      rw [hc] at h3
      obtain ⟨h31, h41⟩ := and2 (show (compT t && _) = true from h3)
      cases e with
      | ListComp x gs scope p =>
        cases hw : swp sc y py p scope with
        | false => exact ds_asg ((show swapsWithSole [Expr.Name y py] _ pos.line X.env = swapsWith _ (some (Expr.Name y py)) pos.line X.env from rfl).trans (sw_comp hk ok.hsc hw)) rfl hone pe pg
        | true =>
          cases g with
          | nm i => exact setc_ok fw ok hk h1 h2 h31 hw
          | tp gs => cases h1
      | _ => cases h41
  | Tuple ts k p =>
    have hone : (assignEach [.Tuple ts k p] X.env).map (·.2) = [assign (.Tuple ts k p) X.env] := rfl
    cases hu : unT e with
    | none =>
      have hc : compE e = false := by
        cases e <;> first | rfl | (cases h3; done)
      exact ds_asg (sole_no hc) (store_no2 hu) hone pe pg
    | some q =>
      obtain ⟨vs, k2, p2⟩ := q
      cases unT_eq hu
      have h3 : (match swS sc ts vs with
        | some none => true
        | _ => false) = true := h3
      have : swS sc ts vs = some none := by
        cases hq : swS sc ts vs with
        | none => rw [hq] at h3; cases h3
        | some r =>
          cases r with
          | none => rfl
          | some _ => rw [hq] at h3; cases h3
      exact ds_asg (sole_no rfl) (sw_eq hk ok.hsc this) hone pe pg
  | _ => cases h3
theorem par_ok (ok : XOk G E F N sc sc W X) (hk : X.env.scope.kind = .function) {js : List Nat} {es : Es} {ts vs : List Expr} {k k2 : Nat} {p p2 pos : Pos} (h1 : parB N sc js ts vs = true) (h2 : cEs G N es sc vs = true) : DS E X W (.Assign [.Tuple ts k p] (.Tuple vs k2 p2) pos) (sPar js (semEs F es)) := by
  have pa := cEs_ok es vs ok h2
  have hN : X.N.Nodup := by rw [ok.hN]; exact ok.nd
  unfold parB at h1
  split at h1
  · obtain ⟨q1, h1⟩ := and2 h1
    obtain ⟨q2, h1⟩ := and2 h1
    obtain ⟨q3, h1⟩ := and2 h1
    obtain ⟨q4, h1⟩ := and2 h1
    obtain ⟨q5, q6⟩ := and2 h1
    have q1 := of_decide_eq_true q1
    have q2 := of_decide_eq_true q2
    refine ds_par2 (es := []) (by rw [ok.hN]; exact (List.getElem?_eq_some_iff.mp q1).1) (by rw [ok.hN]; exact (List.getElem?_eq_some_iff.mp q2).1)
      (ps_par ok.calm hN (by rw [ok.hN]; exact q1) (by rw [ok.hN]; exact q2) (of_decide_eq_true q3) (by rw [ok.hsc]; exact of_decide_eq_true q4) (by rw [ok.hsc]; exact of_decide_eq_true q5) pa (sw_eq hk ok.hsc (of_decide_eq_true q6)))
  · obtain ⟨q1, h1⟩ := and2 h1
    obtain ⟨q2, h1⟩ := and2 h1
    obtain ⟨q3, h1⟩ := and2 h1
    obtain ⟨r1, h1⟩ := and2 h1
    obtain ⟨r2, h1⟩ := and2 h1
    obtain ⟨r3, h1⟩ := and2 h1
    obtain ⟨q4, h1⟩ := and2 h1
    obtain ⟨q5, h1⟩ := and2 h1
    obtain ⟨q6, q7⟩ := and2 h1
    have q1 := of_decide_eq_true q1
    have q2 := of_decide_eq_true q2
    have q3 := of_decide_eq_true q3
    refine ds_par3 (es := []) (by rw [ok.hN]; exact (List.getElem?_eq_some_iff.mp q1).1) (by rw [ok.hN]; exact (List.getElem?_eq_some_iff.mp q2).1) (by rw [ok.hN]; exact (List.getElem?_eq_some_iff.mp q3).1)
      (ps_par3 ok.calm hN (by rw [ok.hN]; exact q1) (by rw [ok.hN]; exact q2) (by rw [ok.hN]; exact q3) (of_decide_eq_true r1) (of_decide_eq_true r2) (of_decide_eq_true r3) (by rw [ok.hsc]; exact of_decide_eq_true q4) (by rw [ok.hsc]; exact of_decide_eq_true q5) (by rw [ok.hsc]; exact of_decide_eq_true q6) pa (sw_eq hk ok.hsc (of_decide_eq_true q7)))
  · cases h1
mutual
theorem cS_ok (fw : Free W) (ok : XOk G E F N sc sc W X) (hk : X.env.scope.kind = .function) : ∀ (s : Stm) (x : Stmt), cS G N sc s x = true → DS E X W x (exec F fuel s)
  | .never, _, _ => ds_never
  | .asg g t, x, h => by
    unfold cS at h
    cases hu : unA x with
    | none => rw [hu] at h; cases h
    | some q =>
      obtain ⟨tg, e, pos⟩ := q
      rw [hu] at h
      cases unA_eq hu
      obtain ⟨h1, h⟩ := and2 h
      obtain ⟨h2, h3⟩ := and2 h
      exact asg_ok fw ok hk h1 h2 h3
  | .par js es, x, h => by
    unfold cS at h
    cases hu : unA x with
    | none => rw [hu] at h; cases h
    | some q =>
      obtain ⟨tg, e, pos⟩ := q
      rw [hu] at h
      simp only at h
      cases unA_eq hu
      cases ht : unT tg with
      | none => rw [ht] at h; cases h
      | some q =>
        obtain ⟨ts, k, p⟩ := q
        rw [ht] at h
        simp only at h
        cases hv : unT e with
        | none => rw [hv] at h; cases h
        | some q =>
          obtain ⟨vs, k2, p2⟩ := q
          rw [hv] at h
          cases unT_eq ht
          cases unT_eq hv
          obtain ⟨h1, h2⟩ := and2 h
          exact par_ok ok hk h1 h2
  | .put a i t, x, h => by
    unfold cS at h
    cases hu : unA x with
    | none => rw [hu] at h; cases h
    | some q =>
      obtain ⟨tg, e, pos⟩ := q
      rw [hu] at h
      simp only at h
      cases unA_eq hu
      cases ht : unSub tg with
      | none => rw [ht] at h; cases h
      | some q =>
        obtain ⟨y, z, p⟩ := q
        rw [ht] at h
        cases unSub_eq ht
        obtain ⟨h1, h⟩ := and2 h
        obtain ⟨h2, h⟩ := and2 h
        obtain ⟨h3, h⟩ := and2 h
        obtain ⟨h4, h5⟩ := and2 h
        exact ds_put (sole_no (not_t h2)) (by cases e <;> rfl) (plainAssign_of (not_t h1) _ _ _) (cE_ok a y ok h3).de (cE_ok i z ok h4).de (cE_ok t e ok h5).de
  | .expr t, x, h => by
    unfold cS at h
    cases x with
    | Expr e p =>
      obtain ⟨h1, h2⟩ := and2 h
      exact ds_expr (sw_no (not_t h1)) (cE_ok t e ok h2).de
    | _ => cases h
  | .ret t, x, h => by
    unfold cS at h
    cases x with
    | Return r p =>
      cases r with
      | some e => exact ds_ret (cE_ok t e ok h).de
      | none => cases h
    | _ => cases h
  | .retN, x, h => by
    unfold cS at h
    cases x with
    | Return r p =>
      cases r with
      | some e => cases h
      | none => exact ds_retN
    | _ => cases h
  | .ite c a b, x, h => by
    unfold cS at h
    cases x with
    | If y z w p =>
      obtain ⟨h1, h⟩ := and2 h
      obtain ⟨h2, h3⟩ := and2 h
      exact ds_if (cE_ok c y ok h1).dt (cSs_ok fw ok hk a z h2) (cSs_ok fw ok hk b w h3)
    | _ => cases h
  | .for_ it g b, x, h => by
    unfold cS at h
    cases x with
    | For tg iter body els p =>
      obtain ⟨h0, h⟩ := and2 h
      obtain ⟨h1, h⟩ := and2 h
      obtain ⟨h2, h⟩ := and2 h
      obtain ⟨h3, h4⟩ := and2 h
      cases els with
      | cons _ _ => cases h0
      | nil => exact ds_for fw ok.po ok.calm (fun v => by cases iter <;> first | rfl | (cases (not_t h1); done)) (cI_ok it tg iter ok h2) (cG_ok ok g tg h3) (cSs_ok fw ok hk b body h4)
    | _ => cases h
  | .while_ c b, x, h => by
    unfold cS at h
    cases x with
    | While y body els p =>
      obtain ⟨h0, h⟩ := and2 h
      obtain ⟨h1, h2⟩ := and2 h
      cases els with
      | cons _ _ => cases h0
      | nil => exact ds_while fw ok.po (cE_ok c y ok h1).dt (cSs_ok fw ok hk b body h2)
    | _ => cases h
  | .pass, x, h => by
    unfold cS at h
    cases x with
    | Pass p => exact ds_pass
    | Expr e p =>
      cases e with
      | Constant c j q =>
        cases c with
        | str s => exact ds_doc
        | _ => cases h
      | _ => cases h
    | _ => cases h
  | .brk, x, h => by
    unfold cS at h
    cases x with
    | Break p => exact ds_break
    | _ => cases h
  | .cont, x, h => by
    unfold cS at h
    cases x with
    | Continue p => exact ds_cont
    | _ => cases h
theorem cSs_ok (fw : Free W) (ok : XOk G E F N sc sc W X) (hk : X.env.scope.kind = .function) : ∀ (s : Stms) (x : List Stmt), cSs G N sc s x = true → DSs E X W x (execs F fuel s)
  | .nil, x, h => by
    cases x with
    | nil => exact dss_nil
    | cons _ _ => cases h
  | .cons s r, x, h => by
    cases x with
    | nil => cases h
    | cons y ys =>
      obtain ⟨h1, h2⟩ := and2 h
      exact dss_cons fw (cS_ok fw ok hk s y h1) (cSs_ok fw ok hk r ys h2)
end
end
end Q
end

section
set_option Elab.async false
set_option linter.all false
set_option maxRecDepth 100000
set_option maxHeartbeats 4000000
/-! Defs and texts: each def computes what the interpreter says. -/
namespace Q
open PySem PySem.Spec PyProof.Rows L2
theorem start_rep {K : PySem.W.Frag} {ι : List Addr} {H : Hp} {vs : List V} {ds : List D} {N : List Str} {k : Nat} (r : Reps K ι H vs ds) : RepSt K ι H (L2.start N vs) (ds.map some ++ List.replicate k none) := fun i d h => by
  by_cases hi : i < (ds.map some).length
  · rw [List.getElem?_append_left hi, List.getElem?_map] at h
    cases e : ds[i]? with
    | none => rw [e] at h; cases h
    | some d' =>
      rw [e] at h
      obtain rfl : d' = d := Option.some.inj (Option.some.inj h)
      obtain ⟨v, h1, h2⟩ := r.get e
      refine ⟨v, ?_, h2⟩
      unfold L2.start
      have hv : i < vs.length := (List.getElem?_eq_some_iff.mp h1).1
      rw [List.getElem?_append_left (by rw [List.length_map]; exact hv), List.getElem?_map, h1]; rfl
  · rw [List.getElem?_append_right (by omega), List.getElem?_replicate] at h
    split at h <;> cases h
/-- a def of the text -/
structure TD where
  name : Str
  top : Stmt
  N : List Str
  df : Df
abbrev TD.ps (t : TD) : List Str := t.N.take t.df.ar
abbrev TD.sc (t : TD) : Scope := defScope t.top
def scopeB (N ps : List Str) (sc : Scope) : Bool := (match sc.kind with
  | .function => true
  | _ => false) && (!sc.isCoroutine && (!sc.isGenerator && (decide N.Nodup && (decide (N.take ps.length = ps) && (ps.all (fun x => (match sc.names.lookup x with
    | some .local => true | some .cell => true | _ => false)) && sc.names.all fun y => (match y.2 with
    | .free => false | _ => true))))))
theorem scopeB_ok {N ps : List Str} {sc : Scope} (h : scopeB N ps sc = true) : FnScope N ps sc := by
  obtain ⟨h1, h⟩ := and2 h
  obtain ⟨h2, h⟩ := and2 h
  obtain ⟨h3, h⟩ := and2 h
  obtain ⟨h4, h⟩ := and2 h
  obtain ⟨h5, h⟩ := and2 h
  obtain ⟨h6, h7⟩ := and2 h
  refine ⟨?_, not_t h2, not_t h3, of_decide_eq_true h4, of_decide_eq_true h5, fun x hx => ?_, fun y hy e => ?_⟩
  · cases e : sc.kind <;> first | rfl | (rw [e] at h1; cases h1)
  · have q := List.all_eq_true.mp h6 x hx
    cases e : sc.names.lookup x with
    | none => rw [e] at q; cases q
    | some k => rw [e] at q; cases k <;> first | exact .inl rfl | exact .inr rfl | cases q
  · have q := List.all_eq_true.mp h7 y hy
    rw [e] at q; cases q
def TD.okB (G : NX) (t : TD) : Bool := scopeB t.N t.ps t.sc && (decide (t.ps.length = t.df.ar) && (Nat.beq t.N.length t.df.sl && cSs G t.N t.sc t.df.body (defBody t.top)))
def tabOf (l : List TD) : Nat → Option Df := fun i => (l[i]?).map (·.df)
/-- what is known of the text in the heap behind its top -/
structure Txt (G : NX) (l : List TD) (K : PySem.W.Frag) (mg : Str → Option Value) : Prop where
  ok : l.all (TD.okB G) = true
  fd : ∀ (i : Nat) (t : TD), l[i]? = some t → ∃ f fd, FunD K t.name t.name (defArgs t.top) (defBody t.top) (defScope t.top) [] [] f fd ∧ mg t.name = some (.ref f) ∧ Binds K fd t.ps []
  fns : ∀ x f n, (x, f, n) ∈ G.fns → ∃ t, l[f]? = some t ∧ t.name = x ∧ t.df.ar = n
  cst : ∀ x d, (x, d) ∈ G.consts → ∃ u v, mg x = some u ∧ RelV v u ∧ ∀ ι H, Rep K ι H v d
  free : ∀ x, x ∈ G.free → mg x = none
  bfs : ∀ x b, (x, b) ∈ G.bfs → mg x = some (bltA b)
theorem FunD.kp' {K : PySem.W.Frag} {x qual : Str} {params : Arguments} {body : List Stmt} {scope : Scope} {f : Addr} {fd : FuncData} (F : FunD K x qual params body scope [] [] f fd) : PySem.W.keepIn K (.ref f) = true := F.kp
theorem phi_len {fuel : Nat} {T : Nat → Option Df} {k f : Nat} {d : Df} {ds : List D} {M : Ar} (h : T f = some d) (hl : ds.length ≠ d.ar) : Phi fuel T k f ds M = .stuck := by
  cases k with
  | zero => rfl
  | succ k =>
    unfold Phi
    rw [h]
    show runBody _ _ d ds M = _
    unfold runBody
    rw [if_neg hl]; rfl
section
variable {G : NX} {E : GX} {l : List TD} {P : Program} {w : World} {K : PySem.W.Frag} {mg : Str → Option Value} {base : Heap} {fuel : Nat}
theorem TD.run (X : Txt G l K mg) : ∀ (k i : Nat) (t : TD), l[i]? = some t → ∃ f fd, mg t.name = some (.ref f) ∧ PySem.W.keepIn K (.ref f) = true ∧ Binds K fd t.ps [] ∧
    FunD K t.name t.name (defArgs t.top) (defBody t.top) (defScope t.top) [] [] f fd ∧ FnOk P w K mg base (L2.CX P w) k f fd t.ps (spD E K t.df.ar (Phi fuel (tabOf l) k i)) := by
  intro k
  induction k with
  | zero =>
    intro i t ht
    obtain ⟨f, fd, F, g, b⟩ := X.fd i t ht
    refine ⟨f, fd, g, F.kp, b, F, ⟨fun vs H Q E' h => ?_, fun A outer s H args us vs Q E' _ _ _ _ h => ?_⟩⟩
    · obtain ⟨_, ι, M, ds, _, _, h⟩ := h; exact False.elim h
    · obtain ⟨_, ι, M, ds, _, _, h⟩ := h; exact False.elim h
  | succ k ih =>
    intro i t ht
    obtain ⟨f, fd, F, g, b⟩ := X.fd i t ht
    refine ⟨f, fd, g, F.kp, b, F, ?_⟩
    have hok := List.all_eq_true.mp X.ok t (List.mem_of_getElem? ht)
    obtain ⟨h1, h⟩ := and2 hok
    obtain ⟨h2, h⟩ := and2 h
    obtain ⟨h3, h4⟩ := and2 h
    have S := scopeB_ok h1
    have h2 := of_decide_eq_true h2
    refine F.ok S (fun vs H Q E' h => h.1.trans h2.symm) fun cdv A outer s H vs Q E' hr h => ?_
    obtain ⟨hl, ι, M, ds, rp, Sm, h⟩ := h
    have hT : tabOf l i = some t.df := by unfold tabOf; rw [ht]; rfl
    have ok : XOk G E (Phi fuel (tabOf l) k) t.N t.sc t.sc (fun cls d _ H => E' cls d H) (cxOf (L2.CX P w) P w K mg base t.N t.name (defScope t.top) f cdv A outer s H E') := {
      hsc := rfl
      hN := rfl
      nd := S.nd
      calm := rfl
      tk := takes_of rfl rfl rfl rfl
      po := passes_of rfl
      room := by have := hr.un; show (A.deeper _).units + 65 < cLine; omega
      fn := fun _ _ => rfl
      cst := X.cst
      free := X.free
      bfs := X.bfs
      fun_ := fun x j n hx => by
        obtain ⟨t', ht', hn, ha⟩ := X.fns x j n hx
        obtain ⟨f', fd', g', kp', b', F', ok'⟩ := ih j t' ht'
        rw [ha] at ok'
        refine ⟨k, f', fd', t'.ps, ok', hr, ?_, kp', b', fun ds M hd => ?_⟩
        · rw [← hn]; exact g'
        · exact phi_len (d := t'.df) (by unfold tabOf; rw [ht']; rfl) (by rw [ha]; exact hd) }
    refine ⟨_, cSs_ok (fuel := fuel) (fun _ _ _ _ _ z => z) ok S.kind t.df.body (defBody t.top) h4, ι, ds.map some ++ List.replicate (t.df.sl - ds.length) none, M, start_rep rp, Sm, ?_⟩
    have hd : ds.length = t.df.ar := by rw [← rp.length]; exact hl
    have hp : Phi fuel (tabOf l) (k + 1) i ds M = bnd (execs (Phi fuel (tabOf l) k) fuel t.df.body (ds.map some ++ List.replicate (t.df.sl - ds.length) none)) retF M := by
      show (match tabOf l i with | some d => runBody (Phi fuel (tabOf l) k) fuel d ds | none => stk) M = _
      rw [hT]
      show runBody _ _ _ _ _ = _
      unfold runBody
      rw [if_pos hd]
    rw [hp] at h
    have conv : ∀ x : Out Rv, (match x with
      | .ok r M' => ∀ ι' v H', Ext K ι H ι' H' → RepR K H ι' H' v r → Sim K ι' H' M' → Q v H'
      | .exc c p M' => ∀ ι' cls oe H', Ext K ι H ι' H' → Sim K ι' H' M' → E.ea K ι' H' c p cls oe → E' cls oe H'
      | .stuck => False) → GoX E K (fun cls d _ H => E' cls d H) (L2.start t.N vs) ι H x (fun r M' => ∀ ι' v H', Ext K ι H ι' H' → RepR K H ι' H' v r → Sim K ι' H' M' → Q v H') := fun x h => by
      cases x <;> exact h
    have h' : GoX E K (fun cls d _ H => E' cls d H) (L2.start t.N vs) ι H (bnd (execs (Phi fuel (tabOf l) k) fuel t.df.body (ds.map some ++ List.replicate (t.df.sl - ds.length) none)) retF M) (fun r M' => ∀ ι' v H', Ext K ι H ι' H' → RepR K H ι' H' v r → Sim K ι' H' M' → Q v H') := conv _ h
    refine h'.bnd.mono fun fl M1 h2 => ?_
    cases fl with
    | nx e =>
      have h2 : ∀ ι' v H', Ext K ι H ι' H' → RepR K H ι' H' v (.d .non) → Sim K ι' H' M1 → Q v H' := h2
      exact fun ι' σ' H' e' _ S' => h2 ι' .non H' e' .non S'
    | rt r => exact (show ∀ ι' v H', Ext K ι H ι' H' → RepR K H ι' H' v r → Sim K ι' H' M1 → Q v H' from h2)
    | bk e => exact False.elim h2
    | ct e => exact False.elim h2
end
end Q
end

section
set_option Elab.async false
set_option linter.all false
set_option maxRecDepth 100000
set_option maxHeartbeats 4000000
/-! The head: what the text's names are behind its top, the law's call. -/
namespace Q
open PySem PySem.Spec PyProof.Rows L2
/-! ### a Hook with values told outright -/
def glB (gs : List (Str × Value)) (K : PySem.W.Frag) : Bool := gs.all fun p => He.eqO (PySem.W.nsIn K mainGlobals p.1) (some (some p.2))
def obsQ (gs : List (Str × Value)) (fa : List He.Fa) (fn : List He.DefD) (K : PySem.W.Frag) : Bool × He.AlD := (glB gs K, He.obsD fa fn K)
def valQ (fn : List He.DefD) : Bool × He.AlD := (true, He.valD fn)
def hookQ (n : Nat) (gs : List (Str × Value)) (fa : List He.Fa) (fn : List He.DefD) : PySem.W.Hook where
  α := Bool × He.AlD
  obs := fun s => obsQ gs fa fn (He.frG s.heap.get? (He.asD s.heap.get? n))
  val := fun _ => valQ fn
  says := fun _ h => ∃ K : PySem.W.Frag, K.In h ∧ obsQ gs fa fn K = valQ fn
  of := fun _ _ e => ⟨_, He.frG_in, e⟩
  keeps := fun _ _ _ ⟨K, hK, c⟩ k => ⟨K, PySem.W.Frag.In.keeps hK k, c⟩
def obQ (n : Nat) (gs : List (Str × Value)) (fa : List He.Fa) (fn : List He.DefD) (s : PySem.W.SharedT) : Bool × He.AlD := obsQ gs fa fn (He.frG (HandSHeadRun.getT s) (He.asD (HandSHeadRun.getT s) n))
theorem obQ_eq {n : Nat} {gs : List (Str × Value)} {fa : List He.Fa} {fn : List He.DefD} (s : PySem.W.SharedT) : obQ n gs fa fn s = (hookQ n gs fa fn).obs s.abs := by
  have e : HandSHeadRun.getT s = s.abs.heap.get? := funext (HandSHeadRun.getT_eq s)
  unfold obQ
  rw [e] <;> rfl
/-! ### the facts asked for -/
def TD.dd (t : TD) : He.DefD := ⟨(t.name, none), t.name, t.name, defArgs t.top, defBody t.top, defScope t.top, [], []⟩
def faC (p : Str × D) : He.Fa := match p.2 with
  | .int i => .int p.1 i
  | .str s => .str p.1 ⟨s.toArray⟩
  | _ => .free p.1
def flatD : D → Bool
  | .int _ => true
  | .str _ => true
  | _ => false
def faQ (G : NX) (l : List TD) : List He.Fa := l.map (fun t => He.Fa.glo t.name) ++ (G.free.map He.Fa.free ++ G.consts.map faC)
def gsQ (G : NX) : List (Str × Value) := G.bfs.map fun p => (p.1, bltA p.2)
/-- the binding of a def's arguments -/
def BindT (t : TD) : Prop := ∀ (kV doc pm : Value) (an : Option Addr) (cdv ct : Value) (us : List Value), us.length = t.ps.length → bindArgs (PySem.W.fnOf t.name t.name (defArgs t.top) (defBody t.top) (defScope t.top) .none kV doc pm an cdv ct) ⟨us, []⟩ = pure (t.ps.zip us)
def BindTs : List TD → Prop
  | [] => True
  | t :: ts => BindT t ∧ BindTs ts
theorem BindTs.get : ∀ {l : List TD} {i : Nat} {t : TD}, BindTs l → l[i]? = some t → BindT t
  | [], _, _, _, h => by simp at h
  | t :: ts, 0, t', h, e => by
    cases e; exact h.1
  | t :: ts, i + 1, t', h, e => BindTs.get h.2 e
def fnsB (G : NX) (l : List TD) : Bool := G.fns.all fun p => match l[p.2.1]? with
  | some t => decide (t.name = p.1) && Nat.beq t.df.ar p.2.2
  | none => false
section
variable {G : NX} {l : List TD} {K : PySem.W.Frag} {mg : Str → Option Value} {h : Heap}
theorem fn_at {i : Nat} {t : TD} (e : l[i]? = some t) : (l.map TD.dd)[i]? = some t.dd := by rw [List.getElem?_map, e]; rfl
theorem txt_of (X : K.In h) (N : h.Ns mainGlobals mg) (c : obsQ (gsQ G) (faQ G l) (l.map TD.dd) K = valQ (l.map TD.dd)) (hB : BindTs l) (ok : l.all (TD.okB G) = true) (hf : fnsB G l = true) (hc : G.consts.all (fun p => flatD p.2) = true) : Txt G l K mg := by
  have c1 : glB (gsQ G) K = true := congrArg (fun z : Bool × He.AlD => z.1) c
  have c2 : He.SaysD (faQ G l) (l.map TD.dd) K := congrArg (fun z : Bool × He.AlD => z.2) c
  have fact : ∀ f : He.Fa, f ∈ faQ G l → f.ok K = true := fun f hf => by
    obtain ⟨i, hi⟩ := List.mem_iff_getElem?.mp hf
    exact c2.fact i hi
  refine ⟨ok, fun i t ht => ?_, fun x f n hx => ?_, fun x d hx => ?_, fun x hx => ?_, fun x b hx => ?_⟩
  · obtain ⟨fd, F⟩ := c2.def_ i (fn_at ht)
    have F : FunD K t.name t.name (defArgs t.top) (defBody t.top) (defScope t.top) [] [] (He.fAd K (t.name, none)) fd := F
    have g := He.glo_ok X N (fact (.glo t.name) (List.mem_append_left _ (List.mem_map.mpr ⟨t, List.mem_of_getElem? ht, rfl⟩)))
    exact ⟨_, fd, F, g, F.bindsN (hB.get ht)⟩
  · have q := List.all_eq_true.mp hf (x, f, n) hx
    simp only at q
    cases e : l[f]? with
    | none => rw [e] at q; cases q
    | some t =>
      rw [e] at q
      obtain ⟨q1, q2⟩ := and2 q
      exact ⟨t, rfl, of_decide_eq_true q1, Nat.eq_of_beq_eq_true q2⟩
  · have q : flatD d = true := List.all_eq_true.mp hc (x, d) hx
    have m : faC (x, d) ∈ faQ G l := List.mem_append_right _ (List.mem_append_right _ (List.mem_map.mpr ⟨(x, d), hx, rfl⟩))
    have fo := fact _ m
    cases d with
    | int i =>
      obtain ⟨t, e⟩ := He.int_ok X N fo
      exact ⟨_, .int i, e, ⟨t, rfl⟩, fun _ _ => .int i⟩
    | str s =>
      obtain ⟨t, e⟩ := He.str_ok X N fo
      exact ⟨_, .str ⟨s.toArray⟩, e, ⟨t, rfl⟩, fun _ _ => .str s⟩
    | _ => cases q
  · exact He.free_ok X N (fact (.free x) (List.mem_append_right _ (List.mem_append_left _ (List.mem_map.mpr ⟨x, hx, rfl⟩))))
  · have m : (x, bltA b) ∈ gsQ G := List.mem_map.mpr ⟨(x, b), hx, rfl⟩
    exact PySem.W.mg_of X N (He.eqO_ok (List.all_eq_true.mp c1 _ m))
end
def GE : GX := ⟨[], [], [], fun _ _ _ _ _ _ _ => False⟩
theorem reps_ints {K : PySem.W.Frag} {ι : List Addr} {H : Hp} : ∀ ns : List Int, Reps K ι H (ns.map V.int) (ns.map D.int)
  | [] => .nil
  | n :: ns => .cons (.int n) (reps_ints ns)
theorem fz_of {K : PySem.W.Frag} {H : Hp} {a : Addr} {xs : List V} (o : L2.Only H) (h : SqL K H a xs) : FzL K H a xs := by
  rcases h with (h | ⟨ob, h⟩) | h
  · rcases o a with z | ⟨o', ys, z⟩
    · rw [h] at z; cases z
    · rw [h] at z; cases z
  · exact .inl ⟨ob, h⟩
  · exact .inr h
/-- THE LAW: the head's run, the text's look, the law's own reckoning give the row's walk -/
theorem walk_q {lw : PySem.W.OpenLaw} {n k : Nat} {q : Program} {loose : List Str} {XP : (Str → Option Value) → Heap → Prop} {d : DefRec} {G : NX} {l : List TD} {li m fuel : Nat} {t : TD} {x : Str}
    (hn : lw.most = some n) (hn2 : n ≤ sizeLine) (hdf : d.params.defaults = []) (hr : Room k callerA) (hB : BindTs l) (ok : l.all (TD.okB G) = true) (hf : fnsB G l = true) (hc : G.consts.all (fun p => flatD p.2) = true)
    (ht : l[li]? = some t) (hnm : d.name = t.name) (hps : t.ps = [x]) (har : t.df.ar = 1)
    (law : ∀ ns : List Int, ns.length ≤ n → ∃ M, Phi fuel (tabOf l) k li [.rl (ns.map D.int)] [] = .ok (.d (.bl true)) M) :
    PySem.W.WalkO q loose XP (hookQ m (gsQ G) (faQ G l) (l.map TD.dd)).says lw.row.toRowW d [] (fun f vs => PySem.call f vs) := by
  refine Att.attach_call hn hdf fun w s₀ s₁ mg mb fa o pm cd doc a vs ns Gd Y ho hd hcd hmg hobj hints hlen hg => ?_
  obtain ⟨K, KX, c⟩ := Y
  have T := txt_of KX Gd.T.g c hB ok hf hc
  have c2 : He.SaysD (faQ G l) (l.map TD.dd) K := congrArg (fun z : Bool × He.AlD => z.2) c
  obtain ⟨fd, F⟩ := c2.def_ li (fn_at ht)
  have F : FunD K t.name t.name (defArgs t.top) (defBody t.top) (defScope t.top) [] [] (He.fAd K (t.name, none)) fd := F
  have g := He.glo_ok KX Gd.T.g (c2.fact li (f := .glo t.name) (by
    show (faQ G l)[li]? = _
    unfold faQ
    rw [List.getElem?_append_left (by rw [List.length_map]; exact (List.getElem?_eq_some_iff.mp ht).1), List.getElem?_map, ht]; rfl))
  rw [hnm] at hmg
  have efa : fa = He.ga K t.name := by
    have e := hmg.symm.trans g
    cases e; rfl
  have bA := FunD.bindsA (ps := t.ps) F (hB.get ht)
  refine law_call (sp := spD GE K 1 (Phi fuel (tabOf l) k li)) (fd := fd) (x := x) (CX := L2.CX lw.prog w) KX Gd.T.g Gd.T.b Gd.T.builtins Gd.T.nolimit hg hobj hints (Nat.le_trans hlen hn2) hr (fun base _ _ => ?_) (fun s u => ?_) (fun H hO hS => ?_) fun H e s' hcx => ?_
  · obtain ⟨f, fd', g', kp, b, F', ok'⟩ := TD.run (E := GE) (P := lw.prog) (w := w) (base := base) (fuel := fuel) T k li t ht
    have ef : f = He.ga K t.name := by
      have e := g'.symm.trans g
      cases e; rfl
    have efd : fd' = fd := by
      obtain ⟨oc, od, dV, kV, doc, pm, an, cdv, ct, osl, rfl, lk, _⟩ := F'.ex
      obtain ⟨oc2, od2, dV2, kV2, doc2, pm2, an2, cdv2, ct2, osl2, rfl, lk2, _⟩ := F.ex
      have e : He.fAd K (t.name, none) = f := by rw [ef]; rfl
      rw [e] at lk2
      rw [lk] at lk2
      injection lk2 with z
      injection z with z1 z2 z3 z4
      injection z3
    rw [efa, ← ef, ← efd, ← hps, ← har]
    exact ok'
  · have := bA s [u] (by rw [hps]; rfl)
    rw [hps] at this
    exact this
  · obtain ⟨M, e⟩ := law ns hlen
    refine ⟨rfl, [], [], [.rl (ns.map D.int)], .cons (.rl (fz_of hO hS) (reps_ints ns)) .nil, ⟨List.nodup_nil, rfl, fun n a o h => by simp at h⟩, ?_⟩
    rw [e]
    intro ι' v H' _ r _
    cases r; rfl
  · obtain ⟨_, _, _, _, _, _, _, _, _, _, _, _, z⟩ := hcx
    exact z
end Q
end

section
set_option Elab.async false
set_option linter.all false
set_option maxRecDepth 100000
/-! What a run comes to: rules for plain proofs over the interpreter. -/
namespace Q
def WP {α : Type} (x : Md α) (M : Ar) (R : α → Ar → Prop) : Prop := match x M with
  | .ok a M' => R a M'
  | _ => False
theorem WP.mono {α : Type} {x : Md α} {M : Ar} {R R' : α → Ar → Prop} (h : WP x M R) (m : ∀ a M', R a M' → R' a M') : WP x M R' := by
  unfold WP at h ⊢
  cases e : x M with
  | ok a M' => rw [e] at h; exact m _ _ h
  | exc c p M' => rw [e] at h; exact h
  | stuck => rw [e] at h; exact h
theorem WP.run {α : Type} {x : Md α} {M : Ar} {R : α → Ar → Prop} (h : WP x M R) : ∃ a M', x M = .ok a M' ∧ R a M' := by
  unfold WP at h
  cases e : x M with
  | ok a M' => rw [e] at h; exact ⟨a, M', rfl, h⟩
  | exc c p M' => rw [e] at h; exact h.elim
  | stuck => rw [e] at h; exact h.elim
section
variable {α β : Type} {M : Ar} {F : Nat → List D → Md Rv} {fuel : Nat} {env : Env}
theorem wp_ret {a : α} {R : α → Ar → Prop} : WP (ret a) M R = R a M := rfl
theorem wp_bnd {x : Md α} {f : α → Md β} {R : β → Ar → Prop} : WP (bnd x f) M R = WP x M (fun a M' => WP (f a) M' R) := by
  unfold WP bnd
  cases x M <;> rfl
theorem wp_opt {f : Ar → Option α} {R : α → Ar → Prop} : WP (opt f) M R = (match f M with
  | some a => R a M
  | none => False) := by
  unfold WP opt
  cases f M <;> rfl
theorem wp_stk {R : α → Ar → Prop} : WP stk M R = False := rfl
def stl (r : Rv) (M : Ar) (R : D → Ar → Prop) : Prop := match r with
  | .d d => R d M
  | .l ds => R (.ref M.length) (M ++ [.lst ds])
theorem stl_d {d : D} {R : D → Ar → Prop} : stl (.d d) M R = R d M := rfl
theorem stl_l {ds : List D} {R : D → Ar → Prop} : stl (.l ds) M R = R (.ref M.length) (M ++ [.lst ds]) := rfl
theorem wp_settle {r : Rv} {R : D → Ar → Prop} : WP (settle r) M R = stl r M R := by cases r <;> rfl
def isB (r : Rv) (M : Ar) (R : Bool → Ar → Prop) : Prop := match r with
  | .d (.bl b) => R b M
  | _ => False
theorem isB_bl {b : Bool} {R : Bool → Ar → Prop} : isB (.d (.bl b)) M R = R b M := rfl
theorem wp_asB {r : Rv} {R : Bool → Ar → Prop} : WP (asB r) M R = isB r M R := by
  cases r with
  | d d => cases d <;> rfl
  | l ds => rfl
def getP (env : Env) (i : Nat) (R : Rv → Prop) : Prop := match env[i]? with
  | some (some d) => R (.d d)
  | _ => False
theorem wp_var {i : Nat} {R : Rv → Ar → Prop} : WP (sem F (.var i) env) M R = getP env i (fun r => R r M) := by
  show WP (getV env i) M R = _
  unfold getV getP
  cases env[i]? with
  | none => rfl
  | some o => cases o <;> rfl
theorem getP_0 {d : D} {e : Env} {R : Rv → Prop} : getP (some d :: e) 0 R = R (.d d) := rfl
theorem getP_s {o : Option D} {e : Env} {i : Nat} {R : Rv → Prop} : getP (o :: e) (i + 1) R = getP e i R := rfl
theorem wp_cst {d : D} {R : Rv → Ar → Prop} : WP (sem F (.cst d) env) M R = R (.d d) M := rfl
def isI (r : Rv) (R : Int → Prop) : Prop := match r with
  | .d (.int i) => R i
  | _ => False
theorem isI_int {i : Int} {R : Int → Prop} : isI (.d (.int i)) R = R i := rfl
theorem wp_neg {a : Tm} {R : Rv → Ar → Prop} : WP (sem F (.neg a) env) M R = WP (sem F a env) M (fun r M' => isI r fun i => R (.d (.int (-i))) M') := by
  show WP (bnd (sem F a env) _) M R = _
  rw [wp_bnd]
  congr; funext r M'
  cases r with
  | d d => cases d <;> rfl
  | l ds => rfl
def WB (F : Nat → List D → Md Rv) (a : Tm) (env : Env) (M : Ar) (R : Bool → Ar → Prop) : Prop := WP (sem F a env) M (fun r M' => isB r M' R)
theorem wb {a : Tm} {R : Bool → Ar → Prop} : WB F a env M R = WP (sem F a env) M (fun r M' => isB r M' R) := rfl
theorem wp_B {a : Tm} {R : Bool → Ar → Prop} : WP (bnd (sem F a env) asB) M R = WB F a env M R := by
  rw [wp_bnd]; unfold WB; congr; funext r M'; exact wp_asB
theorem wp_nt {a : Tm} {R : Rv → Ar → Prop} : WP (sem F (.nt a) env) M R = WB F a env M (fun b M' => R (.d (.bl (!b))) M') := by
  show WP (bnd (bnd (sem F a env) asB) _) M R = _
  rw [wp_bnd, wp_B]; rfl
def optP {α : Type} (o : Option α) (R : α → Prop) : Prop := match o with
  | some a => R a
  | none => False
theorem optP_some {a : α} {R : α → Prop} : optP (some a) R = R a := rfl
theorem wp_opt' {f : Ar → Option α} {R : α → Ar → Prop} : WP (opt f) M R = optP (f M) (fun a => R a M) := by
  rw [wp_opt]; unfold optP; rfl
theorem wp_bin {o : Bop} {a b : Tm} {R : Rv → Ar → Prop} : WP (sem F (.bin o a b) env) M R = WP (sem F a env) M (fun x M1 => WP (sem F b env) M1 (fun y M2 => optP (binop o x y M2) (fun r => R r M2))) := by
  show WP (bnd (sem F a env) _) M R = _
  rw [wp_bnd]; congr; funext x M1
  rw [wp_bnd]; congr; funext y M2
  exact wp_opt'
theorem wp_cmp {o : Cop} {a b : Tm} {R : Rv → Ar → Prop} : WP (sem F (.cmp o a b) env) M R = WP (sem F a env) M (fun x M1 => WP (sem F b env) M1 (fun y M2 => optP (cmpop o x y M2) (fun r => R (.d (.bl r)) M2))) := by
  show WP (bnd (sem F a env) _) M R = _
  rw [wp_bnd]; congr; funext x M1
  rw [wp_bnd]; congr; funext y M2
  rw [wp_bnd, wp_opt']; rfl
theorem wp_chain {o p : Cop} {a b c : Tm} {R : Rv → Ar → Prop} : WP (sem F (.chain o p a b c) env) M R = WP (sem F a env) M (fun x M1 => WP (sem F b env) M1 (fun y M2 => optP (cmpop o x y M2) (fun r => match r with
    | true => WP (sem F c env) M2 (fun z M3 => optP (cmpop p y z M3) (fun r => R (.d (.bl r)) M3))
    | false => R (.d (.bl false)) M2))) := by
  show WP (bnd (sem F a env) _) M R = _
  rw [wp_bnd]; congr; funext x M1
  rw [wp_bnd]; congr; funext y M2
  rw [wp_bnd, wp_opt']; congr; funext r
  cases r with
  | false => rfl
  | true =>
    show WP (bnd (sem F c env) _) M2 R = WP (sem F c env) M2 _
    rw [wp_bnd]; congr; funext z M3
    rw [wp_bnd, wp_opt']; rfl
theorem wp_and {a b : Tm} {R : Rv → Ar → Prop} : WP (sem F (.and a b) env) M R = WB F a env M (fun r M1 => match r with
    | true => WB F b env M1 (fun r M2 => R (.d (.bl r)) M2)
    | false => R (.d (.bl false)) M1) := by
  show WP (bnd (bnd (sem F a env) asB) _) M R = _
  rw [wp_bnd, wp_B]; congr; funext r M1
  cases r with
  | false => rfl
  | true =>
    show WP (bnd (bnd (sem F b env) asB) _) M1 R = WB F b env M1 _
    rw [wp_bnd, wp_B]; rfl
theorem wp_or {a b : Tm} {R : Rv → Ar → Prop} : WP (sem F (.or a b) env) M R = WB F a env M (fun r M1 => match r with
    | true => R (.d (.bl true)) M1
    | false => WB F b env M1 (fun r M2 => R (.d (.bl r)) M2)) := by
  show WP (bnd (bnd (sem F a env) asB) _) M R = _
  rw [wp_bnd, wp_B]; congr; funext r M1
  cases r with
  | true => rfl
  | false =>
    show WP (bnd (bnd (sem F b env) asB) _) M1 R = WB F b env M1 _
    rw [wp_bnd, wp_B]; rfl
theorem wp_ite {c a b : Tm} {R : Rv → Ar → Prop} : WP (sem F (.ite c a b) env) M R = WB F c env M (fun r M1 => match r with
    | true => WP (sem F a env) M1 R
    | false => WP (sem F b env) M1 R) := by
  show WP (bnd (bnd (sem F c env) asB) _) M R = _
  rw [wp_bnd, wp_B]; congr; funext r M1
  cases r <;> rfl
theorem wp_tup {es : Es} {R : Rv → Ar → Prop} : WP (sem F (.tup es) env) M R = WP (semEs F es env) M (fun ds M1 => ds.length ≤ line ∧ R (.d (.tup ds)) M1) := by
  show WP (bnd (semEs F es env) _) M R = _
  rw [wp_bnd]; congr; funext ds M1
  by_cases h : ds.length ≤ line
  · rw [if_pos h, wp_ret]; exact propext ⟨fun z => ⟨h, z⟩, fun z => z.2⟩
  · rw [if_neg h, wp_stk]; exact propext ⟨False.elim, fun z => h z.1⟩
theorem wp_lst {es : Es} {R : Rv → Ar → Prop} : WP (sem F (.lst es) env) M R = WP (semEs F es env) M (fun ds M1 => ds.length ≤ line ∧ R (.l ds) M1) := by
  show WP (bnd (semEs F es env) _) M R = _
  rw [wp_bnd]; congr; funext ds M1
  by_cases h : ds.length ≤ line
  · rw [if_pos h, wp_ret]; exact propext ⟨fun z => ⟨h, z⟩, fun z => z.2⟩
  · rw [if_neg h, wp_stk]; exact propext ⟨False.elim, fun z => h z.1⟩
theorem wp_idx {a b : Tm} {R : Rv → Ar → Prop} : WP (sem F (.idx a b) env) M R = WP (sem F a env) M (fun x M1 => WP (sem F b env) M1 (fun y M2 => optP (index x y M2) (fun r => R r M2))) := by
  show WP (bnd (sem F a env) _) M R = _
  rw [wp_bnd]; congr; funext x M1
  rw [wp_bnd]; congr; funext y M2
  exact wp_opt'
theorem wp_slcA {a lo : Tm} {R : Rv → Ar → Prop} (hl : isAbs lo = false) : WP (sem F (.slc a lo (.cst .non)) env) M R = WP (sem F a env) M (fun x M1 => WP (sem F lo env) M1 (fun y M2 => isI y fun l => optP (slice x (some l) none M2) (fun r => R r M2))) := by
  show WP (bnd (sem F a env) _) M R = _
  rw [wp_bnd]; congr; funext x M1
  rw [wp_bnd, wp_bnd]; congr; funext y M2
  rw [hl]
  cases y with
  | d d => cases d <;> first | rfl | (show WP (bnd _ _) _ _ = _; rw [wp_bnd, wp_bnd]; exact wp_opt')
  | l ds => rfl
theorem wp_slcB {a hi : Tm} {R : Rv → Ar → Prop} (hl : isAbs hi = false) : WP (sem F (.slc a (.cst .non) hi) env) M R = WP (sem F a env) M (fun x M1 => WP (sem F hi env) M1 (fun y M2 => isI y fun h => optP (slice x none (some h) M2) (fun r => R r M2))) := by
  show WP (bnd (sem F a env) _) M R = _
  rw [wp_bnd]; congr; funext x M1
  show WP (bnd (bnd (sem F hi env) _) _) M1 R = _
  rw [wp_bnd, wp_bnd]; congr; funext y M2
  rw [hl]
  cases y with
  | d d => cases d <;> first | rfl | exact wp_opt'
  | l ds => rfl
theorem wp_slc {a lo hi : Tm} {R : Rv → Ar → Prop} (hl : isAbs lo = false) (hh : isAbs hi = false) : WP (sem F (.slc a lo hi) env) M R = WP (sem F a env) M (fun x M1 => WP (sem F lo env) M1 (fun y M2 => isI y fun l => WP (sem F hi env) M2 (fun z M3 => isI z fun h => optP (slice x (some l) (some h) M3) (fun r => R r M3)))) := by
  show WP (bnd (sem F a env) _) M R = _
  rw [wp_bnd]; congr; funext x M1
  rw [wp_bnd, wp_bnd]; congr; funext y M2
  rw [hl]
  cases y with
  | d d => cases d <;> first | rfl | (
      show WP (bnd (bnd (sem F hi env) _) _) M2 R = WP (sem F hi env) M2 _
      rw [wp_bnd, wp_bnd]; congr; funext z M3
      rw [hh]
      cases z with
      | d d => cases d <;> first | rfl | exact wp_opt'
      | l ds => rfl)
  | l ds => rfl
/-- behind a call -/
def TQ (M : Ar) (r : Rv) (M2 : Ar) (R : Rv → Ar → Prop) : Prop := match trunc M (.ok r M2) with
  | .ok r' M3 => R r' M3
  | _ => False
theorem wp_call {f : Nat} {es : Es} {R : Rv → Ar → Prop} : WP (sem F (.call f es) env) M R = WP (semEs F es env) M (fun ds M1 => WP (F f ds) M1 (fun r M2 => TQ M r M2 R)) := by
  rw [← wp_bnd]
  show WP (fun M => trunc M (bnd (semEs F es env) (F f) M)) M R = _
  unfold WP TQ
  simp only
  cases bnd (semEs F es env) (F f) M with
  | ok a M1 =>
    simp only
    generalize trunc M (.ok a M1) = t
    cases t <;> rfl
  | exc c p M1 => rfl
  | stuck => rfl
theorem wp_blt {b : Blt} {es : Es} {R : Rv → Ar → Prop} : WP (sem F (.blt b es) env) M R = WP (semRs F es env) M (fun xs M1 => optP (builtin b xs M1) (fun r => R r M1)) := by
  show WP (bnd (semRs F es env) _) M R = _
  rw [wp_bnd]; congr; funext xs M1
  exact wp_opt'
theorem wp_isin {a : Tm} {ts : List Ty} {R : Rv → Ar → Prop} : WP (sem F (.isin a ts) env) M R = WP (sem F a env) M (fun x M1 => optP (isTys M1 x ts) (fun b => R (.d (.bl b)) M1)) := by
  show WP (bnd (sem F a env) _) M R = _
  rw [wp_bnd]; congr; funext x M1
  rw [wp_bnd, wp_opt']; rfl
/-- one turn of a comprehension -/
def turnC (F : Nat → List D → Md Rv) (own : List Nat) (g : Tg) (c e : Tm) (env : Env) : D → Md (Option D) := fun d => match tgt g d (wipe env own) with
  | some env' => noExc (bnd (bnd (sem F c env') asB) fun
    | true => bnd (bnd (sem F e env') settle) fun y => ret (some y)
    | false => ret none)
  | none => stk
theorem wp_comp {own : List Nat} {it : Itm} {g : Tg} {c e : Tm} {R : Rv → Ar → Prop} : WP (sem F (.comp own it g c e) env) M R = WP (semIt F it env) M (fun iv M1 => WP (compAll (turnC F own g c e env) iv) M1 (fun ds M2 => R (.l ds) M2)) := by
  show WP (bnd (semIt F it env) _) M R = _
  rw [wp_bnd]; congr; funext iv M1
  show WP (bnd (compAll (turnC F own g c e env) iv) _) M1 R = _
  rw [wp_bnd]; rfl
theorem wp_noExc {x : Md α} {R : α → Ar → Prop} : WP (noExc x) M R = WP x M R := by
  unfold WP noExc
  cases x M <;> rfl
theorem wp_turn {own : List Nat} {g : Tg} {c e : Tm} {d : D} {R : Option D → Ar → Prop} : WP (turnC F own g c e env d) M R = optP (tgt g d (wipe env own)) (fun env' => WB F c env' M (fun b M1 => match b with
    | true => WP (sem F e env') M1 (fun r M2 => stl r M2 (fun y M3 => R (some y) M3))
    | false => R none M1)) := by
  unfold turnC
  cases tgt g d (wipe env own) with
  | none => rfl
  | some env' =>
    show WP (noExc _) M R = WB F c env' M _
    rw [wp_noExc, wp_bnd, wp_B]; congr; funext b M1
    cases b with
    | false => rfl
    | true =>
      show WP (bnd (bnd (sem F e env') settle) _) M1 R = WP (sem F e env') M1 _
      rw [wp_bnd, wp_bnd]; congr; funext r M2
      rw [wp_settle]; rfl
theorem wp_meth {m : Mth} {a : Tm} {es : Es} {R : Rv → Ar → Prop} : WP (sem F (.meth m a es) env) M R = WP (sem F a env) M (fun r M1 => stl r M1 (fun x M2 => WP (isRefM x) M2 (fun _ M3 => WP (semEs F es env) M3 (fun xs M4 => WP (method m x xs) M4 R)))) := by
  show WP (bnd (bnd (sem F a env) settle) _) M R = _
  rw [wp_bnd, wp_bnd]; congr; funext r M1
  rw [wp_settle]; congr; funext x M2
  rw [wp_bnd]; congr; funext _ M3
  rw [wp_bnd]
theorem wp_esN {R : List D → Ar → Prop} : WP (semEs F .nil env) M R = R [] M := rfl
theorem wp_esC {e : Tm} {es : Es} {R : List D → Ar → Prop} : WP (semEs F (.cons e es) env) M R = WP (sem F e env) M (fun r M1 => stl r M1 (fun d M2 => WP (semEs F es env) M2 (fun ds M3 => R (d :: ds) M3))) := by
  show WP (bnd (bnd (sem F e env) settle) _) M R = _
  rw [wp_bnd, wp_bnd]; congr; funext r M1
  rw [wp_settle]; congr; funext d M2
  rw [wp_bnd]; rfl
theorem wp_esS {e : Tm} {es : Es} {R : List D → Ar → Prop} : WP (semEs F (.star e es) env) M R = WP (sem F e env) M (fun x M1 => optP (asS M1 x) (fun xs => WP (semEs F es env) M1 (fun ds M3 => R (xs ++ ds) M3))) := by
  show WP (bnd (sem F e env) _) M R = _
  rw [wp_bnd]; congr; funext x M1
  rw [wp_bnd, wp_opt']; congr; funext xs
  rw [wp_bnd]; rfl
theorem wp_rsN {R : List Rv → Ar → Prop} : WP (semRs F .nil env) M R = R [] M := rfl
theorem wp_rsC {e : Tm} {es : Es} {R : List Rv → Ar → Prop} : WP (semRs F (.cons e es) env) M R = WP (sem F e env) M (fun r M1 => WP (semRs F es env) M1 (fun ds M3 => R (r :: ds) M3)) := by
  show WP (bnd (sem F e env) _) M R = _
  rw [wp_bnd]; congr; funext r M1
  rw [wp_bnd]; rfl
theorem wp_itS {a : Tm} {R : Itv → Ar → Prop} : WP (semIt F (.seq a) env) M R = WP (sem F a env) M (fun x M1 => optP (asIt x M1) (fun iv => R iv M1)) := by
  show WP (bnd (sem F a env) _) M R = _
  rw [wp_bnd]; congr; funext x M1; exact wp_opt'
theorem wp_itR {es : Es} {R : Itv → Ar → Prop} : WP (semIt F (.rng es) env) M R = WP (semRs F es env) M (fun xs M1 => optP (rangeIt xs M1) (fun iv => R iv M1)) := by
  show WP (bnd (semRs F es env) _) M R = _
  rw [wp_bnd]; congr; funext x M1; exact wp_opt'
theorem wp_itZ {a b : Tm} {R : Itv → Ar → Prop} : WP (semIt F (.zip a b) env) M R = WP (sem F a env) M (fun x M1 => WP (sem F b env) M1 (fun y M2 => optP (zipIt x y M2) (fun iv => R iv M2))) := by
  show WP (bnd (sem F a env) _) M R = _
  rw [wp_bnd]; congr; funext x M1
  rw [wp_bnd]; congr; funext y M2; exact wp_opt'
theorem wp_itE {a : Tm} {R : Itv → Ar → Prop} : WP (semIt F (.enum a) env) M R = WP (sem F a env) M (fun x M1 => optP (enumIt x M1) (fun iv => R iv M1)) := by
  show WP (bnd (sem F a env) _) M R = _
  rw [wp_bnd]; congr; funext x M1; exact wp_opt'
/-! ### statements -/
theorem wp_V {e : Tm} {R : D → Ar → Prop} : WP (semV F e env) M R = WP (sem F e env) M (fun r M1 => stl r M1 R) := by
  show WP (bnd (sem F e env) settle) M R = _
  rw [wp_bnd]; congr; funext r M1; exact wp_settle
theorem wp_nil {R : Fl → Ar → Prop} : WP (execs F fuel .nil env) M R = R (.nx env) M := rfl
def nxt (F : Nat → List D → Md Rv) (fuel : Nat) (r : Stms) (fl : Fl) (M : Ar) (R : Fl → Ar → Prop) : Prop := match fl with
  | .nx e => WP (execs F fuel r e) M R
  | f => R f M
theorem nxt_nx {r : Stms} {e : Env} {R : Fl → Ar → Prop} : nxt F fuel r (.nx e) M R = WP (execs F fuel r e) M R := rfl
theorem nxt_rt {r : Stms} {v : Rv} {R : Fl → Ar → Prop} : nxt F fuel r (.rt v) M R = R (.rt v) M := rfl
theorem nxt_bk {r : Stms} {e : Env} {R : Fl → Ar → Prop} : nxt F fuel r (.bk e) M R = R (.bk e) M := rfl
theorem nxt_ct {r : Stms} {e : Env} {R : Fl → Ar → Prop} : nxt F fuel r (.ct e) M R = R (.ct e) M := rfl
theorem wp_cons {s : Stm} {r : Stms} {R : Fl → Ar → Prop} : WP (execs F fuel (.cons s r) env) M R = WP (exec F fuel s env) M (fun fl M1 => nxt F fuel r fl M1 R) := by
  show WP (bnd (exec F fuel s env) _) M R = _
  rw [wp_bnd]; congr; funext fl M1
  cases fl <;> rfl
theorem wp_asg {g : Tg} {e : Tm} {R : Fl → Ar → Prop} : WP (exec F fuel (.asg g e) env) M R = WP (sem F e env) M (fun r M1 => stl r M1 (fun d M2 => optP (tgt g d env) (fun e' => R (.nx e') M2))) := by
  show WP (bnd (semV F e env) _) M R = _
  rw [wp_bnd, wp_V]; congr; funext r M1; congr; funext d M2
  cases tgt g d env <;> rfl
theorem wp_par {js : List Nat} {es : Es} {R : Fl → Ar → Prop} : WP (exec F fuel (.par js es) env) M R = WP (semEs F es env) M (fun ds M2 => optP (sets js ds env) (fun e' => R (.nx e') M2)) := by
  show WP (bnd (semEs F es env) _) M R = _
  rw [wp_bnd]; congr; funext ds M2
  cases sets js ds env <;> rfl
theorem wp_put {a i e : Tm} {R : Fl → Ar → Prop} : WP (exec F fuel (.put a i e) env) M R = WP (sem F e env) M (fun r M1 => stl r M1 (fun d M2 => WP (sem F a env) M2 (fun x M3 => WP (sem F i env) M3 (fun y M4 => WP (putAt x y d) M4 (fun _ M5 => R (.nx env) M5))))) := by
  show WP (bnd (semV F e env) _) M R = _
  rw [wp_bnd, wp_V]; congr; funext r M1; congr; funext d M2
  rw [wp_bnd]; congr; funext x M3
  rw [wp_bnd]; congr; funext y M4
  rw [wp_bnd]; rfl
theorem wp_expr {e : Tm} {R : Fl → Ar → Prop} : WP (exec F fuel (.expr e) env) M R = WP (sem F e env) M (fun _ M1 => R (.nx env) M1) := by
  show WP (bnd (sem F e env) _) M R = _
  rw [wp_bnd]; rfl
theorem wp_rt {e : Tm} {R : Fl → Ar → Prop} : WP (exec F fuel (.ret e) env) M R = WP (sem F e env) M (fun r M1 => R (.rt r) M1) := by
  show WP (bnd (sem F e env) _) M R = _
  rw [wp_bnd]; rfl
theorem wp_rtN {R : Fl → Ar → Prop} : WP (exec F fuel .retN env) M R = R (.rt (.d .non)) M := rfl
theorem wp_pass {R : Fl → Ar → Prop} : WP (exec F fuel .pass env) M R = R (.nx env) M := rfl
theorem wp_brk {R : Fl → Ar → Prop} : WP (exec F fuel .brk env) M R = R (.bk env) M := rfl
theorem wp_cont {R : Fl → Ar → Prop} : WP (exec F fuel .cont env) M R = R (.ct env) M := rfl
theorem wp_never {R : Fl → Ar → Prop} : WP (exec F fuel .never env) M R = False := rfl
theorem wp_if {c : Tm} {a b : Stms} {R : Fl → Ar → Prop} : WP (exec F fuel (.ite c a b) env) M R = WB F c env M (fun r M1 => match r with
    | true => WP (execs F fuel a env) M1 R
    | false => WP (execs F fuel b env) M1 R) := by
  show WP (bnd (bnd (sem F c env) asB) _) M R = _
  rw [wp_bnd, wp_B]; congr; funext r M1
  cases r <;> rfl
/-- one turn of a for -/
def turnFor (F : Nat → List D → Md Rv) (fuel : Nat) (g : Tg) (s : Stms) : D → Env → Md Fl := fun d e => match tgt g d e with
  | some e' => execs F fuel s e'
  | none => stk
theorem wp_turnFor {g : Tg} {s : Stms} {d : D} {R : Fl → Ar → Prop} : WP (turnFor F fuel g s d env) M R = optP (tgt g d env) (fun e => WP (execs F fuel s e) M R) := by
  unfold turnFor
  cases tgt g d env <;> rfl
theorem wp_for {it : Itm} {g : Tg} {s : Stms} {R : Fl → Ar → Prop} : WP (exec F fuel (.for_ it g s) env) M R = WP (semIt F it env) M (fun iv M1 => WP (forAll_ (turnFor F fuel g s) iv env) M1 R) := by
  show WP (bnd (semIt F it env) _) M R = _
  rw [wp_bnd]; rfl
theorem wp_while {c : Tm} {s : Stms} {R : Fl → Ar → Prop} : WP (exec F fuel (.while_ c s) env) M R = WP (whileF (fun e => semB F c e) (fun e => execs F fuel s e) fuel env) M R := rfl
def finR (fl : Fl) (M : Ar) (R : Rv → Ar → Prop) : Prop := match fl with
  | .nx _ => R (.d .non) M
  | .rt r => R r M
  | _ => False
theorem finR_rt {r : Rv} {R : Rv → Ar → Prop} : finR (.rt r) M R = R r M := rfl
theorem finR_nx {e : Env} {R : Rv → Ar → Prop} : finR (.nx e) M R = R (.d .non) M := rfl
theorem wp_phi {T : Nat → Option Df} {k f : Nat} {d : Df} {args : List D} {R : Rv → Ar → Prop} (h : T f = some d) (ha : args.length = d.ar) : WP (Phi fuel T (k + 1) f args) M R = WP (execs (Phi fuel T k) fuel d.body (args.map some ++ List.replicate (d.sl - args.length) none)) M (fun fl M1 => finR fl M1 R) := by
  show WP (fun M => (match T f with | some d => runBody (Phi fuel T k) fuel d args | none => stk) M) M R = _
  rw [h]
  show WP (runBody _ _ _ _) M R = _
  unfold runBody
  rw [if_pos ha, wp_bnd]; congr; funext fl M1
  cases fl <;> rfl
end
/-! ### loops -/
theorem wp_forL {f : D → Env → Md Fl} {R : Fl → Ar → Prop} {all : List D} (Inv : Nat → Env → Ar → Prop)
    (step : ∀ i d e M, all[i]? = some d → Inv i e M → WP (f d e) M (fun fl M' => match fl with
      | .nx e => Inv (i + 1) e M'
      | .ct e => Inv (i + 1) e M'
      | .bk e => R (.nx e) M'
      | .rt r => R (.rt r) M')) (fin : ∀ e M, Inv all.length e M → R (.nx e) M) :
    ∀ (ds : List D) (i : Nat) (env : Env) (M : Ar), all.drop i = ds → i ≤ all.length → Inv i env M → WP (forL f ds env) M R
  | [], i, env, M, hd, hi, h => by
    have : all.length ≤ i := by
      have := congrArg List.length hd
      simp at this; omega
    have : i = all.length := Nat.le_antisymm hi this
    subst this
    exact fin _ _ h
  | x :: xs, i, env, M, hd, hi, h => by
    have hx : all[i]? = some x := by
      have := congrArg (·[0]?) hd
      simpa using this
    have hr : all.drop (i + 1) = xs := by
      have := congrArg List.tail hd
      simpa using this
    have hl : i + 1 ≤ all.length := (List.getElem?_eq_some_iff.mp hx).1
    show WP (bnd (f x env) _) M R
    rw [wp_bnd]
    refine (step i x env M hx h).mono fun fl M' q => ?_
    cases fl with
    | nx e => exact wp_forL Inv step fin xs (i + 1) e M' hr hl q
    | ct e => exact wp_forL Inv step fin xs (i + 1) e M' hr hl q
    | bk e => exact q
    | rt r => exact q
theorem wp_forSt {f : D → Env → Md Fl} {R : Fl → Ar → Prop} {all : List D} {env : Env} {M : Ar} (Inv : Nat → Env → Ar → Prop) (h0 : Inv 0 env M)
    (step : ∀ i d e M, all[i]? = some d → Inv i e M → WP (f d e) M (fun fl M' => match fl with
      | .nx e => Inv (i + 1) e M'
      | .ct e => Inv (i + 1) e M'
      | .bk e => R (.nx e) M'
      | .rt r => R (.rt r) M')) (fin : ∀ e M, Inv all.length e M → R (.nx e) M) : WP (forAll_ f (.st all) env) M R := wp_forL Inv step fin all 0 env M rfl (Nat.zero_le _) h0
theorem wp_compLi {f : D → Md (Option D)} {R : List D → Ar → Prop} {all : List D} (Inv : Nat → List D → Ar → Prop) (hl : all.length ≤ line)
    (step : ∀ i d acc M, all[i]? = some d → acc.length ≤ i → Inv i acc M → WP (f d) M (fun o M' => match o with
      | some y => Inv (i + 1) (acc ++ [y]) M'
      | none => Inv (i + 1) acc M')) (fin : ∀ acc M, Inv all.length acc M → R acc M) :
    ∀ (ds : List D) (i : Nat) (acc : List D) (M : Ar), all.drop i = ds → i ≤ all.length → acc.length ≤ i → Inv i acc.reverse M → WP (compL f ds acc) M R
  | [], i, acc, M, hd, hi, ha, h => by
    have : all.length ≤ i := by
      have := congrArg List.length hd
      simp at this; omega
    have : i = all.length := Nat.le_antisymm hi this
    subst this
    exact fin _ _ h
  | x :: xs, i, acc, M, hd, hi, ha, h => by
    have hx : all[i]? = some x := by
      have := congrArg (·[0]?) hd
      simpa using this
    have hr : all.drop (i + 1) = xs := by
      have := congrArg List.tail hd
      simpa using this
    have hl' : i + 1 ≤ all.length := (List.getElem?_eq_some_iff.mp hx).1
    show WP (bnd (f x) _) M R
    rw [wp_bnd]
    refine (step i x acc.reverse M hx (by rw [List.length_reverse]; exact ha) h).mono fun o M' q => ?_
    cases o with
    | none => exact wp_compLi Inv hl step fin xs (i + 1) acc M' hr hl' (by omega) q
    | some y =>
      show WP (if acc.length < line then compL f xs (y :: acc) else stk) M' R
      rw [if_pos (by omega)]
      exact wp_compLi Inv hl step fin xs (i + 1) (y :: acc) M' hr hl' (by simp; omega) (by simpa using q)
theorem wp_compSt {f : D → Md (Option D)} {R : List D → Ar → Prop} {all : List D} {M : Ar} (Inv : Nat → List D → Ar → Prop) (hl : all.length ≤ line) (h0 : Inv 0 [] M)
    (step : ∀ i d acc M, all[i]? = some d → acc.length ≤ i → Inv i acc M → WP (f d) M (fun o M' => match o with
      | some y => Inv (i + 1) (acc ++ [y]) M'
      | none => Inv (i + 1) acc M')) (fin : ∀ acc M, Inv all.length acc M → R acc M) : WP (compAll f (.st all)) M R := wp_compLi Inv hl step fin all 0 [] M rfl (Nat.zero_le _) (Nat.zero_le _) h0
/-- a comprehension that changes nothing -/
theorem wp_compMap {f : D → Md (Option D)} {R : List D → Ar → Prop} {all : List D} {M : Ar} (g : D → D) (hl : all.length ≤ line) (step : ∀ d, d ∈ all → f d M = .ok (some (g d)) M) (fin : R (all.map g) M) : WP (compAll f (.st all)) M R := by
  refine wp_compSt (fun i acc M' => acc = (all.take i).map g ∧ M' = M) hl ⟨rfl, rfl⟩ (fun i d acc M' hd _ h => ?_) (fun acc M' h => ?_)
  · obtain ⟨rfl, rfl⟩ := h
    unfold WP
    rw [step d (List.mem_of_getElem? hd)]
    refine ⟨?_, rfl⟩
    have hi := (List.getElem?_eq_some_iff.mp hd).1
    have e := (List.getElem?_eq_some_iff.mp hd).2
    rw [List.take_succ_eq_append_getElem hi, e, List.map_append]; rfl
  · obtain ⟨rfl, rfl⟩ := h
    rw [List.take_length]; exact fin
/-! ### what is dropped behind a call -/
mutual
theorem D.eqb_refl : ∀ a : D, D.eqb a a = true
  | .non => rfl
  | .bl a => by cases a <;> rfl
  | .int a => by show decide (a = a) = true; simp
  | .str a => by show decide (a = a) = true; simp
  | .tup a => D.eqbs_refl a
  | .rl a => D.eqbs_refl a
  | .ref a => by show Nat.beq a a = true; exact Nat.beq_refl a
theorem D.eqbs_refl : ∀ a : List D, D.eqbs a a = true
  | [] => rfl
  | a :: as => by
    show (D.eqb a a && D.eqbs as as) = true
    rw [D.eqb_refl a, D.eqbs_refl as]; rfl
end
theorem Ob.eqb_refl : ∀ a : Ob, Ob.eqb a a = true
  | .lst a => D.eqbs_refl a
theorem okOld_refl (n : Nat) : ∀ M : Ar, okOld n M M = true
  | [] => rfl
  | o :: os => by
    show ((o.refsLt n || o.eqb o) && okOld n os os) = true
    rw [Ob.eqb_refl, okOld_refl n os]; simp
theorem okOld_set (n : Nat) {o : Ob} (h : o.refsLt n = true) : ∀ (M : Ar) (p : Nat), okOld n M (M.set p o) = true
  | [], _ => rfl
  | a :: os, 0 => by
    show ((o.refsLt n || o.eqb a) && okOld n os os) = true
    rw [h, okOld_refl]; rfl
  | a :: os, p + 1 => by
    show ((a.refsLt n || a.eqb a) && okOld n os (os.set p o)) = true
    rw [Ob.eqb_refl, okOld_set n h os p]; simp
theorem okOld_append {n : Nat} : ∀ {M M' : Ar} {g : Ar}, okOld n M M' = true → okOld n M (M' ++ g) = true
  | [], _, _, _ => rfl
  | _ :: _, [], _, h => by cases h
  | o :: os, o' :: os', g, h => by
    have h : ((o'.refsLt n || o'.eqb o) && okOld n os os') = true := h
    show ((o'.refsLt n || o'.eqb o) && okOld n os (os' ++ g)) = true
    rw [Bool.and_eq_true] at h ⊢
    exact ⟨h.1, okOld_append h.2⟩
theorem TQ_same {M M2 : Ar} {r : Rv} {R : Rv → Ar → Prop} (hl : M2.length = M.length) (h : R r M2) : TQ M r M2 R := by
  unfold TQ trunc
  simp only
  rw [if_neg (by simp [hl])]
  exact h
theorem TQ_push {M M' g : Ar} {r : Rv} {R : Rv → Ar → Prop} (hl : M'.length = M.length) (ho : okOld M.length M M' = true) (hr : okRv M.length r = true) (h : R r M') : TQ M r (M' ++ g) R := by
  unfold TQ trunc
  simp only
  by_cases hg : g = []
  · subst hg
    rw [List.append_nil, if_neg (by simp [hl])]
    exact h
  · have : 0 < g.length := List.length_pos_iff.mpr hg
    rw [if_pos (by simp [hr, okOld_append ho]; omega)]
    simp only
    rw [← hl, List.take_left']
    exact h
    rfl
end Q
end

section
set_option Elab.async false
set_option linter.all false
set_option maxRecDepth 100000
/-! Whole numbers with a bound; the laws' draws. -/
namespace Q
/-- at most n binary places -/
def Bn (n : Nat) (i : Int) : Prop := i.natAbs ≤ 2 ^ n
theorem Bn.mono {m n : Nat} {i : Int} (h : Bn m i) (l : m ≤ n) : Bn n i := Nat.le_trans h (Nat.pow_le_pow_right (by decide) l)
theorem Bn.add {m : Nat} {i j : Int} (h : Bn m i) (g : Bn m j) : Bn (m + 1) (i + j) := by
  unfold Bn at *
  have := Int.natAbs_add_le i j
  have e : (2 : Nat) ^ (m + 1) = 2 ^ m + 2 ^ m := by rw [Nat.pow_succ]; omega
  omega
theorem Bn.neg {m : Nat} {i : Int} (h : Bn m i) : Bn m (-i) := by
  unfold Bn at *; rw [Int.natAbs_neg]; exact h
theorem Bn.sub {m : Nat} {i j : Int} (h : Bn m i) (g : Bn m j) : Bn (m + 1) (i - j) := by
  rw [Int.sub_eq_add_neg]; exact h.add g.neg
theorem Bn.mul {m n : Nat} {i j : Int} (h : Bn m i) (g : Bn n j) : Bn (m + n) (i * j) := by
  unfold Bn at *
  rw [Int.natAbs_mul, Nat.pow_add]
  exact Nat.mul_le_mul h g
theorem Bn.of {n : Nat} {i : Int} (h1 : -(2 ^ n : Nat) ≤ i) (h2 : i ≤ (2 ^ n : Nat)) : Bn n i := by
  unfold Bn; omega
theorem Bn.lt {n : Nat} {i b : Int} (h1 : 0 ≤ i) (h2 : i < b) (h : b ≤ (2 ^ n : Nat)) : Bn n i := by
  unfold Bn; omega
theorem bits_le {n : Nat} {i : Int} (h : Bn n i) : bits i ≤ n + 1 := by
  unfold bits
  have : i.natAbs.log2 < n + 1 := by
    by_cases z : i.natAbs = 0
    · rw [z]; simp
    · exact (Nat.log2_lt z).mpr (Nat.lt_of_le_of_lt h (Nat.pow_lt_pow_right (by decide) (Nat.lt_succ_self n)))
  omega
theorem mulOk_of {m n : Nat} {i j : Int} (h : Bn m i) (g : Bn n j) (l : m + n < 899990) : mulOk i j = true := by
  unfold mulOk
  have := bits_le h
  have := bits_le g
  exact decide_eq_true (by omega)
section
variable {M : Ar} {i j : Int}
theorem bop_add : binop .add (.d (.int i)) (.d (.int j)) M = some (.d (.int (i + j))) := rfl
theorem bop_sub : binop .sub (.d (.int i)) (.d (.int j)) M = some (.d (.int (i - j))) := rfl
theorem bop_mul (h : mulOk i j = true) : binop .mul (.d (.int i)) (.d (.int j)) M = some (.d (.int (i * j))) := by
  show binInt .mul i j = _
  unfold binInt binI
  simp only [h, if_true]
theorem bop_mod (h : j ≠ 0) : binop .mod (.d (.int i)) (.d (.int j)) M = some (.d (.int (i.fmod j))) := by
  show binInt .mod i j = _
  unfold binInt binI
  simp only [h, ne_eq, not_false_eq_true, if_true]
theorem bop_modP (h : 0 < j) : binop .mod (.d (.int i)) (.d (.int j)) M = some (.d (.int (i % j))) := by
  rw [bop_mod (by omega), Int.fmod_eq_emod_of_nonneg _ (by omega)]
theorem bop_div (h : 0 < j) {n : Nat} (b : Bn n j) (l : n < 8990) : binop .div (.d (.int i)) (.d (.int j)) M = some (.d (.int (i / j))) := by
  show binInt .div i j = _
  unfold binInt binI
  have := bits_le b
  have e : (decide (0 < j) && decide (bits j < 9000)) = true := by simp [h]; omega
  simp only [e, if_true]
theorem cop_lt : cmpop .lt (.d (.int i)) (.d (.int j)) M = some (decide (i < j)) := rfl
theorem cop_le : cmpop .le (.d (.int i)) (.d (.int j)) M = some (decide (i ≤ j)) := rfl
theorem cop_gt : cmpop .gt (.d (.int i)) (.d (.int j)) M = some (decide (j < i)) := rfl
theorem cop_ge : cmpop .ge (.d (.int i)) (.d (.int j)) M = some (decide (j ≤ i)) := rfl
theorem cop_eq : cmpop .eq (.d (.int i)) (.d (.int j)) M = some (decide (i = j)) := rfl
theorem cop_ne : cmpop .ne (.d (.int i)) (.d (.int j)) M = some (!decide (i = j)) := rfl
theorem bi_int : builtin .int [.d (.int i)] M = some (.d (.int i)) := rfl
theorem bi_intb {b : Bool} : builtin .int [.d (.bl b)] M = some (.d (.int (b2i b))) := rfl
theorem bi_abs : builtin .abs [.d (.int i)] M = some (.d (.int (if i < 0 then -i else i))) := rfl
theorem bi_max : builtin .max [.d (.int i), .d (.int j)] M = some (.d (.int (if j > i then j else i))) := rfl
theorem bi_min : builtin .min [.d (.int i), .d (.int j)] M = some (.d (.int (if j < i then j else i))) := rfl
theorem bi_gcd : builtin .gcd [.d (.int i), .d (.int j)] M = some (.d (.int (Nat.gcd i.natAbs j.natAbs : Nat))) := rfl
end
/-! ### draws -/
abbrev Sp := Int × Int × Int
def spO (s : Sp) : Ob := .lst [.int s.1, .int s.2.1, .int s.2.2]
def SpOk (n : Nat) (s : Sp) : Prop := 0 ≤ s.1 ∧ Bn 1100 s.1 ∧ 0 ≤ s.2.1 ∧ Bn 90 s.2.1 ∧ 0 ≤ s.2.2 ∧ s.2.2 ≤ n
theorem SpOk.mono {m n : Nat} {s : Sp} (h : SpOk m s) (l : m ≤ n) : SpOk n s := ⟨h.1, h.2.1, h.2.2.1, h.2.2.2.1, h.2.2.2.2.1, by have := h.2.2.2.2.2; omega⟩
def dSpin : Df := ⟨2, 5, (.cons (.ite (.cmp .gt (.idx (.var 0) (.cst (.int 0))) (.cst (.int 0))) (.cons (.asg (.nm 4) (.bin .mod (.blt .int (.cons (.idx (.var 0) (.cst (.int 0))) .nil)) (.var 1))) (.cons (.put (.var 0) (.cst (.int 0)) (.bin .div (.idx (.var 0) (.cst (.int 0))) (.var 1))) (.cons (.ret (.var 4)) .nil))) .nil) (.cons (.put (.var 0) (.cst (.int 2)) (.bin .add (.idx (.var 0) (.cst (.int 2))) (.cst (.int 1)))) (.cons (.asg (.nm 2) (.bin .mod (.blt .int (.cons (.bin .add (.idx (.var 0) (.cst (.int 1))) (.bin .mul (.cst (.int 32452843)) (.idx (.var 0) (.cst (.int 2))))) .nil)) (.cst (.int 2305843009213693951)))) (.cons (.asg (.nm 3) (.bin .add (.bin .mul (.bin .mod (.blt .int (.cons (.bin .add (.bin .mul (.var 2) (.var 2)) (.bin .mul (.cst (.int 109)) (.idx (.var 0) (.cst (.int 2))))) .nil)) (.cst (.int 2305843009213693921))) (.cst (.int 49979687))) (.var 2))) (.cons (.ret (.bin .mod (.blt .int (.cons (.bin .div (.var 3) (.cst (.int 65551))) .nil)) (.var 1))) .nil)))))⟩
def dAmong (f : Nat) : Df := ⟨2, 2, (.cons (.ret (.idx (.var 1) (.call f (.cons (.var 0) (.cons (.blt .len (.cons (.var 1) .nil)) .nil))))) .nil)⟩
theorem ix_sp {M : Ar} {p : Nat} {s : Sp} (h : M[p]? = some (spO s)) : index (.d (.ref p)) (.d (.int 0)) M = some (.d (.int s.1)) ∧ index (.d (.ref p)) (.d (.int 1)) M = some (.d (.int s.2.1)) ∧ index (.d (.ref p)) (.d (.int 2)) M = some (.d (.int s.2.2)) := by
  unfold index asS spO at *
  simp only [h]
  exact ⟨rfl, rfl, rfl⟩
theorem put_at {M : Ar} {p : Nat} {ds : List D} {i : Int} {d : D} {j : Nat} {R : Unit → Ar → Prop} (h : M[p]? = some (.lst ds)) (hj : ixD ds.length i = some j) (r : R () (M.set p (.lst (ds.set j d)))) : WP (putAt (.d (.ref p)) (.d (.int i)) d) M R := by
  unfold WP putAt
  simp only [h, hj]
  exact r
theorem getSet {M : Ar} {p : Nat} {o : Ob} (h : p < M.length) : (M.set p o)[p]? = some o := by
  rw [List.getElem?_set_self h]
theorem spin_run {fuel : Nat} {T : Nat → Option Df} {k f : Nat} (hT : T f = some dSpin) {M : Ar} {p : Nat} {n : Nat} {t : Int} {s : Sp} (hs : SpOk n s) (hn : n < 2 ^ 100) (hM : M[p]? = some (spO s)) (ht : 0 < t) (hb : Bn 8000 t) {R : Rv → Ar → Prop}
    (q : ∀ (r : Int) (s' : Sp), 0 ≤ r → r < t → SpOk (n + 1) s' → R (.d (.int r)) (M.set p (spO s'))) : WP (Phi fuel T (k + 1) f [.ref p, .int t]) M R := by
  obtain ⟨a, b, c⟩ := s
  obtain ⟨h1, h2, h3, h4, h5, h6⟩ := hs
  have hp : p < M.length := (List.getElem?_eq_some_iff.mp hM).1
  obtain ⟨i0, i1, i2⟩ := ix_sp hM
  rw [wp_phi hT rfl]
  show WP (execs (Phi fuel T k) fuel dSpin.body [some (.ref p), some (.int t), none, none, none]) M _
  unfold dSpin
  simp only [wp_cons, wp_if, wb, wp_cmp, wp_idx, wp_var, wp_cst, getP_0, i0, optP_some, cop_gt, isB_bl]
  by_cases ha : 0 < a
  · rw [decide_eq_true ha]
    simp only [wp_cons, wp_asg, wp_bin, wp_blt, wp_rsC, wp_rsN, wp_idx, wp_var, wp_cst, getP_0, getP_s, i0, optP_some, bi_int]
    rw [bop_modP ht]
    simp only [optP_some, stl_d, tgt, nxt_nx, List.set_cons_succ, List.set_cons_zero, wp_put, wp_bin, wp_idx, wp_var, wp_cst, getP_0, getP_s, i0, wp_cons]
    rw [bop_div ht hb (by decide)]
    simp only [optP_some, stl_d, wp_var, wp_cst, getP_0]
    refine put_at hM (j := 0) rfl ?_
    simp only [nxt_nx, wp_cons, wp_rt, wp_var, getP_0, getP_s, nxt_rt, finR_rt]
    refine q _ (a / t, b, c) (Int.emod_nonneg _ (by omega)) (Int.emod_lt_of_pos _ ht) ⟨Int.ediv_nonneg h1 (by omega), ?_, h3, h4, h5, by simp at *; omega⟩
    unfold Bn at *
    have : a / t ≤ a := Int.ediv_le_self _ h1
    have : 0 ≤ a / t := Int.ediv_nonneg h1 (by omega)
    simp only at *
    omega
  · rw [decide_eq_false ha]
    have hc : Bn 110 (c + 1) := by
      have : (n : Int) + 1 ≤ (2 ^ 110 : Nat) := by
        have : n + 1 ≤ 2 ^ 110 := Nat.le_trans hn (by decide)
        omega
      simp only at *
      exact Bn.of (by omega) (by omega)
    have hM' : (M.set p (spO (a, b, c + 1)))[p]? = some (spO (a, b, c + 1)) := getSet hp
    obtain ⟨j0, j1, j2⟩ := ix_sp hM'
    simp only [wp_nil, nxt_nx, wp_cons, wp_put, wp_bin, wp_idx, wp_var, wp_cst, getP_0, i2, optP_some, bop_add, stl_d]
    refine put_at hM (j := 2) rfl ?_
    show WP _ (M.set p (spO (a, b, c + 1))) _
    have m1 : mulOk 32452843 (c + 1) = true := mulOk_of (m := 30) (by unfold Bn; decide) hc (by decide)
    have m2 : mulOk 109 (c + 1) = true := mulOk_of (m := 30) (by unfold Bn; decide) hc (by decide)
    simp only [wp_asg, wp_bin, wp_blt, wp_rsC, wp_rsN, wp_idx, wp_var, wp_cst, getP_0, getP_s, j1, j2, optP_some]
    rw [bop_mul m1]
    simp only [optP_some, bop_add, bi_int]
    rw [bop_modP (by decide)]
    simp only [optP_some, stl_d, tgt, nxt_nx, List.set_cons_succ, List.set_cons_zero, wp_cons, wp_asg, wp_bin, wp_blt, wp_rsC, wp_rsN, wp_idx, wp_var, wp_cst, getP_0, getP_s, j2]
    generalize hone : (b + 32452843 * (c + 1)) % 2305843009213693951 = one
    have ho1 : 0 ≤ one := by rw [← hone]; exact Int.emod_nonneg _ (by decide)
    have ho2 : one < 2305843009213693951 := by rw [← hone]; exact Int.emod_lt_of_pos _ (by decide)
    have hob : Bn 70 one := Bn.lt ho1 ho2 (by decide)
    rw [bop_mul (mulOk_of hob hob (by decide)), optP_some]
    rw [bop_mul m2]
    simp only [optP_some, bop_add, bi_int]
    rw [bop_modP (by decide)]
    simp only [optP_some]
    generalize htw : (one * one + 109 * (c + 1)) % 2305843009213693921 = tw
    have ht1 : 0 ≤ tw := by rw [← htw]; exact Int.emod_nonneg _ (by decide)
    have ht2 : tw < 2305843009213693921 := by rw [← htw]; exact Int.emod_lt_of_pos _ (by decide)
    rw [bop_mul (mulOk_of (Bn.lt (n := 70) ht1 ht2 (by decide)) (n := 30) (by unfold Bn; decide) (by decide))]
    simp only [optP_some, bop_add, stl_d, tgt, nxt_nx, List.set_cons_succ, List.set_cons_zero, wp_cons, wp_rt, wp_bin, wp_blt, wp_rsC, wp_rsN, wp_var, wp_cst, getP_0, getP_s]
    rw [bop_div (by decide) (n := 30) (by unfold Bn; decide) (by decide)]
    simp only [optP_some, bi_int]
    rw [bop_modP ht]
    simp only [optP_some, nxt_rt, finR_rt]
    refine q _ (a, b, c + 1) (Int.emod_nonneg _ (by omega)) (Int.emod_lt_of_pos _ ht) ⟨h1, h2, h3, h4, by simp at *; omega, by simp at *; omega⟩

theorem refs_at {M : Ar} {p : Nat} {s : Sp} (n : Nat) : okOld n M (M.set p (spO s)) = true := okOld_set n rfl M p
section
variable {fuel : Nat} {T : Nat → Option Df} {k fs fa : Nat} {M : Ar} {p n : Nat} {s : Sp} {R : Rv → Ar → Prop}
theorem spin_call (hT : T fs = some dSpin) {s0 : Sp} {t : Int} (hp : p < M.length) (hs : SpOk n s) (hn : n < 2 ^ 100) (ht : 0 < t) (hb : Bn 8000 t) (q : ∀ (r : Int) (s' : Sp), 0 ≤ r → r < t → SpOk (n + 1) s' → R (.d (.int r)) (M.set p (spO s'))) :
    WP (Phi fuel T (k + 1) fs [.ref p, .int t]) (M.set p (spO s)) (fun r M2 => TQ (M.set p (spO s0)) r M2 R) := by
  refine spin_run hT hs hn (getSet hp) ht hb fun r s' h1 h2 h3 => ?_
  rw [List.set_set]
  exact TQ_same (by simp) (q r s' h1 h2 h3)
theorem ix_lst {M : Ar} {m : Nat} {ds : List D} {i : Int} {j : Nat} {d : D} (h : M[m]? = some (.lst ds)) (hj : ixD ds.length i = some j) (hd : ds[j]? = some d) : index (.d (.ref m)) (.d (.int i)) M = some (.d d) := by
  unfold index asS atD
  simp only [h, Option.bind_some, hj, hd]
theorem ixD_nat {n : Nat} {i : Int} (h0 : 0 ≤ i) (h : i < n) : ixD n i = some i.toNat := by
  unfold ixD
  rw [if_pos h0, if_pos h]
theorem len_lst {M : Ar} {m : Nat} {ds : List D} (h : M[m]? = some (.lst ds)) : builtin .len [.d (.ref m)] M = some (.d (.int (ds.length : Nat))) := by
  show Option.map _ (asS M (.d (.ref m))) = _
  unfold asS
  simp only [h, Option.map_some]
/-- a draw from a list that is written at the call -/
theorem among_call (hT : T fs = some dSpin) {s0 : Sp} (hA : T fa = some (dAmong fs)) {items : List D} (hp : p < M.length) (hs : SpOk n s) (hn : n < 2 ^ 100) (h0 : items ≠ []) (hl : items.length ≤ line)
    (q : ∀ (j : Nat) (d : D) (s' : Sp), items[j]? = some d → SpOk (n + 1) s' → d.refsLt M.length = true ∧ R (.d d) (M.set p (spO s'))) :
    WP (Phi fuel T (k + 2) fa [.ref p, .ref M.length]) (M.set p (spO s) ++ [.lst items]) (fun r M2 => TQ (M.set p (spO s0)) r M2 R) := by
  have hlen : (M.set p (spO s0)).length = M.length := List.length_set
  rw [wp_phi hA rfl]
  show WP (execs (Phi fuel T (k + 1)) fuel (dAmong fs).body [some (.ref p), some (.ref M.length)]) _ _
  unfold dAmong
  have hM : (M.set p (spO s) ++ [.lst items])[M.length]? = some (.lst items) := by
    rw [List.getElem?_append_right (by simp)]; simp
  simp only [wp_cons, wp_rt, wp_idx, wp_var, getP_0, getP_s, wp_call, wp_esC, wp_esN, stl_d, wp_blt, wp_rsC, wp_rsN]
  rw [len_lst hM]
  simp only [optP_some, stl_d]
  have hpos : 0 < items.length := List.length_pos_iff.mpr h0
  have hset : ∀ o : Ob, M.set p o ++ [Ob.lst items] = (M ++ [Ob.lst items]).set p o := fun o => (List.set_append_left p o hp).symm
  rw [hset]
  have hp' : p < (M ++ [Ob.lst items]).length := by rw [List.length_append]; omega
  refine spin_call (s0 := s) (M := M ++ [Ob.lst items]) (t := ((items.length : Nat) : Int)) hT hp' hs hn (by omega) ?_ fun r s' h1 h2 h3 => ?_
  · refine Bn.lt (n := 30) (b := 1000001) (by omega) ?_ (by decide) |>.mono (by decide)
    have : items.length ≤ 1000000 := hl
    omega
  obtain ⟨d, hd⟩ : ∃ d, items[r.toNat]? = some d := by
    have : r.toNat < items.length := by omega
    exact ⟨_, List.getElem?_eq_getElem this⟩
  obtain ⟨z1, z2⟩ := q r.toNat d s' hd h3
  have hM' : ((M ++ [Ob.lst items]).set p (spO s'))[M.length]? = some (.lst items) := by
    rw [← hset, List.getElem?_append_right (by simp)]; simp
  rw [ix_lst hM' (ixD_nat h1 h2) hd]
  simp only [optP_some, nxt_rt, finR_rt]
  rw [← hset]
  refine TQ_push (M' := M.set p (spO s')) (by simp) ?_ (by rw [hlen]; exact z1) z2
  rw [← List.set_set (a := spO s0) (b := spO s')]
  exact okOld_set _ rfl _ _
end
/-! ### rows of whole numbers -/
theorem mapM_ints {k : Nat} {M : Ar} : ∀ is : List Int, (is.map D.int).mapM (toP (k + 1) M) = some (is.map PySem.PyData.int)
  | [] => rfl
  | i :: is => by
    rw [List.map_cons, List.mapM_cons, mapM_ints is]; rfl
theorem eqvAll_ints : ∀ is js : List Int, PySem.PyData.eqvAll (is.map PySem.PyData.int) (js.map PySem.PyData.int) = decide (is = js)
  | [], [] => rfl
  | [], _ :: _ => rfl
  | _ :: _, [] => rfl
  | i :: is, j :: js => by
    show (PySem.PyData.eqv (.int i) (.int j) && PySem.PyData.eqvAll (is.map PySem.PyData.int) (js.map PySem.PyData.int)) = _
    rw [eqvAll_ints is js]
    have e : PySem.PyData.eqv (.int i) (.int j) = decide (i = j) := rfl
    rw [e]
    by_cases h1 : i = j <;> by_cases h2 : is = js <;> simp [h1, h2]
abbrev dI (is : List Int) : D := .tup (is.map D.int)
theorem eq_tup {M : Ar} {is js : List Int} : cmpop .eq (.d (dI is)) (.d (dI js)) M = some (decide (is = js)) := by
  show eqR M (.d (.tup _)) (.d (.tup _)) = _
  unfold eqR
  have e : ∀ ks : List Int, toPR M (.d (.tup (ks.map D.int))) = some (.tuple (ks.map PySem.PyData.int)) := fun ks => by
    show Option.map _ ((ks.map D.int).mapM (toP 29 M)) = _
    rw [mapM_ints]; rfl
  simp only [e]
  exact congrArg some (eqvAll_ints is js)
theorem ne_tup {M : Ar} {is js : List Int} : cmpop .ne (.d (dI is)) (.d (dI js)) M = some (!decide (is = js)) := by
  have := eq_tup (M := M) (is := is) (js := js)
  show Option.map _ (cmpEq _ _ M) = _
  rw [show cmpEq (.d (dI is)) (.d (dI js)) M = some (decide (is = js)) from this]; rfl
theorem ne_bl {M : Ar} {a b : Bool} : cmpop .ne (.d (.bl a)) (.d (.bl b)) M = some (!decide (a = b)) := by cases a <;> cases b <;> rfl
theorem len_tup {M : Ar} {ds : List D} : builtin .len [.d (.tup ds)] M = some (.d (.int (ds.length : Nat))) := rfl
theorem add_tup {M : Ar} {a b : List D} (h : a.length + b.length ≤ line) : binop .add (.d (.tup a)) (.d (.tup b)) M = some (.d (.tup (a ++ b))) := by
  show (if a.length + b.length ≤ line then _ else _) = _
  rw [if_pos h]
theorem tuple_l {M : Ar} {ds : List D} : builtin .tuple [.l ds] M = some (.d (.tup ds)) := rfl
theorem intsD_ints : ∀ is : List Int, intsD (is.map D.int) = some is
  | [] => rfl
  | i :: is => by
    show (match intsD (is.map D.int) with | some r => some (i :: r) | none => none) = _
    rw [intsD_ints is]
theorem boolsD_bools : ∀ is : List Bool, boolsD (is.map D.bl) = some is
  | [] => rfl
  | i :: is => by
    show (match boolsD (is.map D.bl) with | some r => some (i :: r) | none => none) = _
    rw [boolsD_bools is]
theorem sum_ints {M : Ar} {is : List Int} : builtin .sum [.l (is.map D.int)] M = some (.d (.int is.sum)) := by
  show Option.map _ ((asL M (.l (is.map D.int))).bind intsD) = _
  show Option.map _ (intsD (is.map D.int)) = _
  rw [intsD_ints]; rfl
theorem all_bools {M : Ar} {bs : List Bool} : builtin .all [.l (bs.map D.bl)] M = some (.d (.bl (bs.all id))) := by
  show Option.map _ (boolsD (bs.map D.bl)) = _
  rw [boolsD_bools]; rfl

theorem wp_exact {α : Type} {x : Md α} {M M1 : Ar} {a : α} (h : WP x M (fun r M' => r = a ∧ M' = M1)) {R : α → Ar → Prop} : WP x M R = R a M1 := by
  obtain ⟨b, M', e, rfl, rfl⟩ := h.run
  unfold WP
  rw [e]
theorem TQ_id {M : Ar} {r : Rv} {R : Rv → Ar → Prop} : TQ M r M R = R r M := by
  unfold TQ trunc
  simp
theorem wp_compPure {f : D → Md (Option D)} {all : List D} {M : Ar} (g : D → D) (hl : all.length ≤ line) (step : ∀ d, d ∈ all → WP (f d) M (fun o M' => o = some (g d) ∧ M' = M)) {R : List D → Ar → Prop} : WP (compAll f (.st all)) M R = R (all.map g) M := by
  refine wp_exact (wp_compMap g hl (fun d hd => ?_) ⟨rfl, rfl⟩)
  obtain ⟨b, M', e, rfl, rfl⟩ := (step d hd).run
  exact e
theorem isI_ty {M : Ar} {i : Int} : isTys M (.d (.int i)) [.int] = some true := rfl
theorem isI_tb {M : Ar} {i : Int} : isTys M (.d (.int i)) [.bool] = some false := rfl
theorem isT_tt {M : Ar} {ds : List D} : isTys M (.d (.tup ds)) [.tuple] = some true := rfl
theorem asIt_tup {M : Ar} {ds : List D} : asIt (.d (.tup ds)) M = some (.st ds) := rfl
theorem asIt_l {M : Ar} {ds : List D} : asIt (.l ds) M = some (.st ds) := rfl
theorem rng1 {M : Ar} {j : Int} (h : small62 j = true) : rangeIt [.d (.int j)] M = some (.st (rangeL 0 j.toNat)) := by
  show (if small62 j = true then _ else _) = _
  rw [if_pos h]
theorem bop_pow {M : Ar} {i j : Int} (h : (decide (0 ≤ j) && decide ((bits i : Int) * j ≤ 1000000)) = true) : binop .pow (.d (.int i)) (.d (.int j)) M = some (.d (.int (i ^ j.toNat))) := by
  show binInt .pow i j = _
  unfold binInt binI
  simp only [h, if_true]
theorem bop_powl {M : Ar} {i j r : Int} (h : binInt .pow i j = some (.d (.int r))) : binop .pow (.d (.int i)) (.d (.int j)) M = some (.d (.int r)) := h
theorem rngLen : ∀ (n : Nat) (lo : Int), (rangeL lo n).length = n
  | 0, _ => rfl
  | n + 1, lo => congrArg (· + 1) (rngLen n (lo + 1))
theorem tgt_nm {i : Nat} {d : D} {env : Env} : tgt (.nm i) d env = some (env.set i (some d)) := rfl
theorem tgt_tp {gs : Tgs} {ds : List D} {env : Env} : tgt (.tp gs) (.tup ds) env = tgts gs ds env := rfl
theorem tgts_nil {env : Env} : tgts .nil [] env = some env := rfl
theorem tgts_cons {i : Nat} {gs : Tgs} {d : D} {ds : List D} {env : Env} : tgts (.cons (.nm i) gs) (d :: ds) env = tgts gs ds (env.set i (some d)) := rfl
theorem sets_nil {env : Env} : sets [] [] env = some env := rfl
theorem sets_cons {j : Nat} {js : List Nat} {d : D} {ds : List D} {env : Env} : sets (j :: js) (d :: ds) env = sets js ds (env.set j (some d)) := rfl
theorem wipe_nil {env : Env} : wipe env [] = env := rfl
theorem wipe_cons {env : Env} {v : Nat} {vs : List Nat} : wipe env (v :: vs) = (wipe env vs).set v none := rfl
theorem wp_compI {f : D → Md (Option D)} {is : List Int} {M : Ar} (g : Int → Int) (hl : is.length ≤ line) (step : ∀ i, i ∈ is → WP (f (.int i)) M (fun o M' => o = some (.int (g i)) ∧ M' = M)) {R : List D → Ar → Prop} : WP (compAll f (.st (is.map D.int))) M R = R ((is.map g).map D.int) M := by
  rw [wp_compPure (fun d => match d with | .int x => .int (g x) | d => d) (by rw [List.length_map]; exact hl) (fun d hd => ?_)]
  · rw [List.map_map, List.map_map]; rfl
  · obtain ⟨x, hx, rfl⟩ := List.mem_map.mp hd
    exact step x hx
theorem rngGet {d : D} : ∀ {n : Nat} {lo : Int} {i : Nat}, (rangeL lo n)[i]? = some d → d = .int (lo + (i : Nat)) ∧ i < n
  | 0, _, _, h => by simp [rangeL] at h
  | n + 1, lo, 0, h => by
    simp [rangeL] at h
    exact ⟨by rw [← h]; simp, Nat.succ_pos _⟩
  | n + 1, lo, i + 1, h => by
    have h : (rangeL (lo + 1) n)[i]? = some d := by simpa [rangeL] using h
    obtain ⟨h1, h2⟩ := rngGet h
    exact ⟨by rw [h1]; congr 1; omega, by omega⟩
theorem push_set (M : Ar) (s : Sp) : ∃ B : Ar, M ++ [spO s] = B.set M.length (spO s) ∧ M.length < B.length := ⟨M ++ [spO s], by simp, by simp⟩
theorem eq_lst {M : Ar} {n : Nat} {ds es : List D} {a b : List PySem.PyData} {r : Bool} (h : M[n]? = some (.lst ds)) (ha : ds.mapM (toP 29 M) = some a) (hb : es.mapM (toP 29 M) = some b) (hr : PySem.PyData.eqvAll a b = r) : cmpop .eq (.d (.ref n)) (.l es) M = some r := by
  show eqR M (.d (.ref n)) (.l es) = _
  unfold eqR
  have e1 : toPR M (.d (.ref n)) = some (.list a) := by
    show (match M[n]? with | some (.lst ds) => (ds.mapM (toP 29 M)).map PySem.PyData.list | _ => none) = _
    rw [h]
    simp only [ha]; rfl
  have e2 : toPR M (.l es) = some (.list b) := by
    show (es.mapM (toP 29 M)).map PySem.PyData.list = _
    rw [hb]; rfl
  rw [e1, e2]
  exact congrArg some hr
theorem get_push {M : Ar} {o : Ob} : (M ++ [o])[M.length]? = some o := by simp
end Q
end

section
set_option linter.all false
set_option maxRecDepth 100000
namespace L_k04
open Q
/-- is_integer(value) 0=value -/
def d_is_integer : Df := ⟨1, 1, (.cons (.ret (.and (.isin (.var 0) [.int]) (.nt (.isin (.var 0) [.bool])))) .nil)⟩
/-- is_short(value) 0=value -/
def d_is_short : Df := ⟨1, 1, (.cons (.ret (.and (.call 0 (.cons (.var 0) .nil)) (.chain .lt .lt (.neg (.cst (.int 1000000000000000000000000000000000000000000000000000000000000))) (.var 0) (.cst (.int 1000000000000000000000000000000000000000000000000000000000000))))) .nil)⟩
/-- is_form_in(many, value) 0=many 1=value 2=entry -/
def d_is_form_in : Df := ⟨2, 3, (.cons (.ret (.and (.isin (.var 1) [.tuple]) (.and (.cmp .eq (.blt .len (.cons (.var 1) .nil)) (.bin .add (.var 0) (.cst (.int 1)))) (.blt .all (.cons (.comp [2] (.seq (.var 1)) (.nm 2) (.cst (.bl true)) (.call 1 (.cons (.var 2) .nil))) .nil))))) .nil)⟩
/-- is_any_form(value) 0=value -/
def d_is_any_form : Df := ⟨1, 1, (.cons (.ret (.and (.isin (.var 0) [.tuple]) (.and (.chain .le .le (.cst (.int 1)) (.blt .len (.cons (.var 0) .nil)) (.bin .add (.cst (.int 14)) (.cst (.int 1)))) (.call 2 (.cons (.bin .sub (.blt .len (.cons (.var 0) .nil)) (.cst (.int 1))) (.cons (.var 0) .nil)))))) .nil)⟩
/-- is_vector_in(many, value) 0=many 1=value 2=entry -/
def d_is_vector_in : Df := ⟨2, 3, (.cons (.ite (.or (.nt (.isin (.var 1) [.tuple])) (.or (.cmp .ne (.blt .len (.cons (.var 1) .nil)) (.bin .add (.var 0) (.cst (.int 1)))) (.nt (.blt .all (.cons (.comp [2] (.seq (.var 1)) (.nm 2) (.cst (.bl true)) (.call 0 (.cons (.var 2) .nil))) .nil))))) (.cons (.ret (.cst (.bl false))) .nil) .nil) (.cons (.ret (.cmp .ge (.idx (.var 1) (.cst (.int 0))) (.cst (.int 0)))) .nil))⟩
/-- at_in(form, vector) 0=form 1=vector 2=one 3=other -/
def d_at_in : Df := ⟨2, 4, (.cons (.ret (.blt .sum (.cons (.comp [2, 3] (.zip (.var 0) (.var 1)) (.tp (.cons (.nm 2) (.cons (.nm 3) .nil))) (.cst (.bl true)) (.bin .mul (.var 2) (.var 3))) .nil))) .nil)⟩
/-- opposite_in(form) 0=form 1=entry -/
def d_opposite_in : Df := ⟨1, 2, (.cons (.ret (.tup (.cons (.bin .sub (.neg (.idx (.var 0) (.cst (.int 0)))) (.cst (.int 1))) (.star (.comp [1] (.seq (.slc (.var 0) (.cst (.int 1)) (.cst .non))) (.nm 1) (.cst (.bl true)) (.neg (.var 1))) .nil)))) .nil)⟩
/-- lowest_in(vector) 0=vector 1=shared 2=entry -/
def d_lowest_in : Df := ⟨1, 3, (.cons (.asg (.nm 1) (.cst (.int 0))) (.cons (.for_ (.seq (.var 0)) (.nm 2) (.cons (.asg (.nm 1) (.blt .gcd (.cons (.var 1) (.cons (.var 2) .nil)))) .nil)) (.cons (.ret (.ite (.cmp .gt (.var 1) (.cst (.int 1))) (.blt .tuple (.cons (.comp [2] (.seq (.var 0)) (.nm 2) (.cst (.bl true)) (.bin .div (.var 2) (.var 1))) .nil)) (.var 0))) .nil)))⟩
/-- require_any_form(form) 0=form -/
def d_require_any_form : Df := ⟨1, 1, (.cons (.ite (.nt (.call 3 (.cons (.var 0) .nil))) (.cons .never .nil) .nil) .nil)⟩
/-- value_at(form, vector) 0=form 1=vector -/
def d_value_at : Df := ⟨2, 2, (.cons (.expr (.call 8 (.cons (.var 0) .nil))) (.cons (.ite (.nt (.call 4 (.cons (.bin .sub (.blt .len (.cons (.var 0) .nil)) (.cst (.int 1))) (.cons (.var 1) .nil)))) (.cons .never .nil) .nil) (.cons (.ret (.call 5 (.cons (.var 0) (.cons (.var 1) .nil)))) .nil)))⟩
/-- lowest(vector) 0=vector -/
def d_lowest : Df := ⟨1, 1, (.cons (.ite (.or (.nt (.isin (.var 0) [.tuple])) (.nt (.chain .le .le (.cst (.int 1)) (.blt .len (.cons (.var 0) .nil)) (.bin .add (.cst (.int 14)) (.cst (.int 1)))))) (.cons .never .nil) .nil) (.cons (.ite (.nt (.call 4 (.cons (.bin .sub (.blt .len (.cons (.var 0) .nil)) (.cst (.int 1))) (.cons (.var 0) .nil)))) (.cons .never .nil) .nil) (.cons (.ret (.call 7 (.cons (.var 0) .nil))) .nil)))⟩
/-- opposite(form) 0=form -/
def d_opposite : Df := ⟨1, 1, (.cons (.expr (.call 8 (.cons (.var 0) .nil))) (.cons (.ret (.call 6 (.cons (.var 0) .nil))) .nil))⟩
/-- _law_spins(_law_script, _law_spot) 0=_law_script 1=_law_spot 2=_law_cell 3=_law_great -/
def d__law_spins : Df := ⟨2, 4, (.cons (.asg (.nm 2) (.ite (.cmp .lt (.var 1) (.blt .len (.cons (.var 0) .nil))) (.blt .int (.cons (.idx (.var 0) (.var 1)) .nil)) (.bin .add (.bin .mul (.cst (.int 223)) (.var 1)) (.cst (.int 71))))) (.cons (.asg (.nm 3) (.bin .mod (.blt .int (.cons (.blt .abs (.cons (.var 2) .nil)) .nil)) (.bin .pow (.bin .pow (.cst (.int 10)) (.cst (.int 51))) (.cst (.int 6))))) (.cons (.ret (.lst (.cons (.blt .max (.cons (.cst (.int 0)) (.cons (.bin .sub (.var 3) (.bin .pow (.cst (.int 10)) (.cst (.int 16)))) .nil))) (.cons (.bin .add (.bin .add (.bin .add (.bin .mul (.bin .mod (.blt .int (.cons (.var 3) .nil)) (.cst (.int 2305843009213693907))) (.cst (.int 67))) (.bin .mul (.cst (.int 941)) (.var 1))) (.bin .mul (.cst (.int 43)) (.blt .int (.cons (.cmp .lt (.var 2) (.cst (.int 0))) .nil)))) (.cst (.int 17))) (.cons (.cst (.int 0)) .nil))))) .nil)))⟩
/-- _law_spin(_law_spins_here, _law_total) 0=_law_spins_here 1=_law_total 2=_law_one 3=_law_two 4=_law_found -/
def d__law_spin : Df := ⟨2, 5, (.cons (.ite (.cmp .gt (.idx (.var 0) (.cst (.int 0))) (.cst (.int 0))) (.cons (.asg (.nm 4) (.bin .mod (.blt .int (.cons (.idx (.var 0) (.cst (.int 0))) .nil)) (.var 1))) (.cons (.put (.var 0) (.cst (.int 0)) (.bin .div (.idx (.var 0) (.cst (.int 0))) (.var 1))) (.cons (.ret (.var 4)) .nil))) .nil) (.cons (.put (.var 0) (.cst (.int 2)) (.bin .add (.idx (.var 0) (.cst (.int 2))) (.cst (.int 1)))) (.cons (.asg (.nm 2) (.bin .mod (.blt .int (.cons (.bin .add (.idx (.var 0) (.cst (.int 1))) (.bin .mul (.cst (.int 32452843)) (.idx (.var 0) (.cst (.int 2))))) .nil)) (.cst (.int 2305843009213693951)))) (.cons (.asg (.nm 3) (.bin .add (.bin .mul (.bin .mod (.blt .int (.cons (.bin .add (.bin .mul (.var 2) (.var 2)) (.bin .mul (.cst (.int 109)) (.idx (.var 0) (.cst (.int 2))))) .nil)) (.cst (.int 2305843009213693921))) (.cst (.int 49979687))) (.var 2))) (.cons (.ret (.bin .mod (.blt .int (.cons (.bin .div (.var 3) (.cst (.int 65551))) .nil)) (.var 1))) .nil)))))⟩
/-- _law_among(_law_spins_here, _law_items) 0=_law_spins_here 1=_law_items -/
def d__law_among : Df := ⟨2, 2, (.cons (.ret (.idx (.var 1) (.call 13 (.cons (.var 0) (.cons (.blt .len (.cons (.var 1) .nil)) .nil))))) .nil)⟩
/-- _law_plain_form(_law_spins_here, _law_many, _law_most) 0=_law_spins_here 1=_law_many 2=_law_most 3=_law_at -/
def d__law_plain_form : Df := ⟨3, 4, (.cons (.ret (.blt .tuple (.cons (.comp [3] (.rng (.cons (.bin .add (.var 1) (.cst (.int 1))) .nil)) (.nm 3) (.cst (.bl true)) (.call 14 (.cons (.var 0) (.cons (.lst (.cons (.cst (.int 0)) (.cons (.cst (.int 0)) (.cons (.bin .sub (.call 13 (.cons (.var 0) (.cons (.bin .add (.bin .mul (.cst (.int 2)) (.var 2)) (.cst (.int 1))) .nil))) (.var 2)) .nil)))) .nil)))) .nil))) .nil)⟩
/-- _law_shared(_law_numbers) 0=_law_numbers 1=_law_found 2=_law_number 3=_law_turn 4=_law_one 5=_law_other -/
def d__law_shared : Df := ⟨1, 6, (.cons (.asg (.nm 1) (.cst (.int 0))) (.cons (.for_ (.seq (.var 0)) (.nm 2) (.cons (.par [4, 5] (.cons (.var 1) (.cons (.blt .abs (.cons (.var 2) .nil)) .nil))) (.cons (.for_ (.rng (.cons (.cst (.int 4000)) .nil)) (.nm 3) (.cons (.ite (.cmp .eq (.var 5) (.cst (.int 0))) (.cons .brk .nil) .nil) (.cons (.par [4, 5] (.cons (.var 5) (.cons (.bin .mod (.var 4) (.var 5)) .nil))) .nil))) (.cons (.asg (.nm 1) (.var 4)) .nil)))) (.cons (.ret (.var 1)) .nil)))⟩
/-- _law_right(_law_spins_here) 0=_law_spins_here 1=_law_many 2=_law_size 3=_law_plain 4=_law_number 5=_law_vector 6=_law_form 7=_law_values 8=_law_more 9=_law_told 10=_law_shared_here 11=_law_first 12=_law_second 13=_law_one 14=_law_at -/
def d__law_right : Df := ⟨1, 15, (.cons (.asg (.nm 1) (.call 14 (.cons (.var 0) (.cons (.lst (.cons (.cst (.int 0)) (.cons (.cst (.int 1)) (.cons (.cst (.int 2)) (.cons (.cst (.int 3)) (.cons (.cst (.int 7)) (.cons (.cst (.int 14)) .nil))))))) .nil)))) (.cons (.asg (.nm 2) (.call 14 (.cons (.var 0) (.cons (.lst (.cons (.cst (.int 1)) (.cons (.cst (.int 4)) (.cons (.bin .pow (.cst (.int 10)) (.cst (.int 6))) (.cons (.bin .pow (.cst (.int 10)) (.cst (.int 40))) .nil))))) .nil)))) (.cons (.asg (.nm 3) (.bin .add (.tup (.cons (.call 13 (.cons (.var 0) (.cons (.cst (.int 4)) .nil))) .nil)) (.blt .tuple (.cons (.comp [14] (.rng (.cons (.var 1) .nil)) (.nm 14) (.cst (.bl true)) (.bin .sub (.call 13 (.cons (.var 0) (.cons (.bin .add (.bin .mul (.cst (.int 2)) (.var 2)) (.cst (.int 1))) .nil))) (.var 2))) .nil)))) (.cons (.asg (.nm 4) (.bin .add (.cst (.int 1)) (.call 13 (.cons (.var 0) (.cons (.call 14 (.cons (.var 0) (.cons (.lst (.cons (.cst (.int 1)) (.cons (.cst (.int 6)) (.cons (.bin .pow (.cst (.int 10)) (.cst (.int 9))) .nil)))) .nil))) .nil))))) (.cons (.asg (.nm 5) (.blt .tuple (.cons (.comp [13] (.seq (.var 3)) (.nm 13) (.cst (.bl true)) (.bin .mul (.var 4) (.var 13))) .nil))) (.cons (.asg (.tp (.cons (.nm 9) (.cons (.nm 10) .nil))) (.tup (.cons (.call 10 (.cons (.var 5) .nil)) (.cons (.call 16 (.cons (.var 5) .nil)) .nil)))) (.cons (.ite (.cmp .eq (.var 10) (.cst (.int 0))) (.cons (.ret (.cmp .eq (.var 9) (.var 5))) .nil) .nil) (.cons (.ite (.or (.cmp .ne (.blt .tuple (.cons (.comp [13] (.seq (.var 9)) (.nm 13) (.cst (.bl true)) (.bin .mul (.var 10) (.var 13))) .nil)) (.var 5)) (.or (.cmp .ne (.call 16 (.cons (.var 9) .nil)) (.cst (.int 1))) (.cmp .ne (.call 10 (.cons (.var 9) .nil)) (.var 9)))) (.cons (.ret (.cst (.bl false))) .nil) .nil) (.cons (.asg (.nm 6) (.call 15 (.cons (.var 0) (.cons (.var 1) (.cons (.cst (.int 99)) .nil))))) (.cons (.ite (.or (.cmp .ne (.call 9 (.cons (.var 6) (.cons (.var 5) .nil))) (.bin .mul (.var 10) (.call 9 (.cons (.var 6) (.cons (.var 9) .nil))))) (.cmp .ne (.call 11 (.cons (.call 11 (.cons (.var 6) .nil)) .nil)) (.var 6))) (.cons (.ret (.cst (.bl false))) .nil) .nil) (.cons (.asg (.nm 7) (.blt .tuple (.cons (.comp [14] (.rng (.cons (.var 1) .nil)) (.nm 14) (.cst (.bl true)) (.bin .sub (.call 13 (.cons (.var 0) (.cons (.cst (.int 21)) .nil))) (.cst (.int 10)))) .nil))) (.cons (.asg (.nm 8) (.bin .add (.tup (.cons (.bin .add (.bin .sub (.idx (.var 6) (.cst (.int 0))) (.call 9 (.cons (.var 6) (.cons (.bin .add (.tup (.cons (.cst (.int 1)) .nil)) (.var 7)) .nil)))) (.call 14 (.cons (.var 0) (.cons (.lst (.cons (.cst (.int 0)) (.cons (.neg (.cst (.int 1))) (.cons (.cst (.int 1)) (.cons (.cst (.int 5)) (.cons (.neg (.cst (.int 5))) .nil)))))) .nil)))) .nil)) (.slc (.var 6) (.cst (.int 1)) (.cst .non)))) (.cons (.par [11, 12] (.cons (.call 9 (.cons (.var 8) (.cons (.bin .add (.tup (.cons (.cst (.int 1)) .nil)) (.var 7)) .nil))) (.cons (.call 9 (.cons (.call 11 (.cons (.var 8) .nil)) (.cons (.bin .add (.tup (.cons (.cst (.int 1)) .nil)) (.var 7)) .nil))) .nil))) (.cons (.ret (.and (.cmp .ne (.cmp .ge (.var 11) (.cst (.int 0))) (.cmp .ge (.var 12) (.cst (.int 0)))) (.cmp .eq (.bin .add (.var 11) (.var 12)) (.neg (.cst (.int 1)))))) .nil))))))))))))))⟩
/-- law(_law_script) 0=_law_script 1=_law_spot 2=_law_told 3=_law_spins_here -/
def d_law : Df := ⟨1, 4, (.cons (.for_ (.rng (.cons (.blt .max (.cons (.cst (.int 1)) (.cons (.blt .min (.cons (.cst (.int 3)) (.cons (.blt .len (.cons (.var 0) .nil)) .nil))) .nil))) .nil)) (.nm 1) (.cons (.asg (.nm 3) (.call 12 (.cons (.var 0) (.cons (.var 1) .nil)))) (.cons (.ite (.or (.nt (.call 17 (.cons (.var 3) .nil))) (.or (.nt (.call 17 (.cons (.var 3) .nil))) (.nt (.call 17 (.cons (.var 3) .nil))))) (.cons (.ret (.cst (.bl false))) .nil) .nil) .nil))) (.cons (.asg (.nm 2) (.lst (.cons (.call 10 (.cons (.tup (.cons (.cst (.int 4)) (.cons (.cst (.int 6)) (.cons (.neg (.cst (.int 2))) .nil)))) .nil)) (.cons (.call 10 (.cons (.tup (.cons (.cst (.int 0)) (.cons (.cst (.int 0)) .nil))) .nil)) (.cons (.call 10 (.cons (.tup (.cons (.cst (.int 0)) (.cons (.neg (.cst (.int 9))) (.cons (.cst (.int 6)) .nil)))) .nil)) (.cons (.call 10 (.cons (.tup (.cons (.cst (.int 5)) .nil)) .nil)) (.cons (.call 11 (.cons (.tup (.cons (.cst (.int 3)) (.cons (.neg (.cst (.int 1))) .nil))) .nil)) (.cons (.call 11 (.cons (.tup (.cons (.neg (.cst (.int 1))) .nil)) .nil)) .nil)))))))) (.cons (.ret (.cmp .eq (.var 2) (.lst (.cons (.tup (.cons (.cst (.int 2)) (.cons (.cst (.int 3)) (.cons (.neg (.cst (.int 1))) .nil)))) (.cons (.tup (.cons (.cst (.int 0)) (.cons (.cst (.int 0)) .nil))) (.cons (.tup (.cons (.cst (.int 0)) (.cons (.neg (.cst (.int 3))) (.cons (.cst (.int 2)) .nil)))) (.cons (.tup (.cons (.cst (.int 1)) .nil)) (.cons (.tup (.cons (.neg (.cst (.int 4))) (.cons (.cst (.int 1)) .nil))) (.cons (.tup (.cons (.cst (.int 0)) .nil)) .nil))))))))) .nil)))⟩
def dfs : List Df := [d_is_integer, d_is_short, d_is_form_in, d_is_any_form, d_is_vector_in, d_at_in, d_opposite_in, d_lowest_in, d_require_any_form, d_value_at, d_lowest, d_opposite, d__law_spins, d__law_spin, d__law_among, d__law_plain_form, d__law_shared, d__law_right, d_law]
abbrev T : Nat → Option Df := fun i => dfs[i]?
abbrev fuel : Nat := 100000
abbrev lev : Nat := 8
abbrev li : Nat := 18
end L_k04
end

section
set_option Elab.async false
set_option linter.all false
set_option maxRecDepth 100000
set_option exponentiation.threshold 100000
namespace L_k04
open Q
section
variable {k : Nat} {M : Ar} {R : Rv → Ar → Prop}
abbrev PH (k : Nat) := Phi fuel T k
theorem s0 {i : Int} : WP (PH (k+1) 0 [.int i]) M R = R (.d (.bl true)) M := by
  rw [wp_phi (d := d_is_integer) rfl rfl]
  unfold d_is_integer
  simp only [wp_cons, wp_nil, wp_if, wb, wp_cmp, wp_idx, wp_var, wp_cst, getP_0, getP_s, optP_some, cop_lt, cop_le, cop_gt, cop_ge, cop_eq, cop_ne, isB_bl, wp_asg, wp_bin, wp_blt, wp_rsC, wp_rsN, bi_int, bi_intb, bi_abs, bi_max, bi_min, bi_gcd, bop_add, bop_sub, stl_d, stl_l, tgt_nm, tgt_tp, tgts_nil, tgts_cons, sets_nil, sets_cons, nxt_nx, nxt_rt, nxt_bk, nxt_ct, List.set_cons_succ, List.set_cons_zero, wp_rt, wp_rtN, wp_pass, wp_brk, wp_cont, finR_rt, finR_nx, wp_expr, wp_par, wp_call, wp_esC, wp_esN, wp_esS, wp_tup, wp_lst, wp_neg, isI_int, wp_nt, wp_and, wp_or, wp_ite, wp_isin, wp_chain, isI_ty, isI_tb, isT_tt, wp_comp, wp_turn, wp_itS, wp_itR, wp_itZ, wp_itE, asIt_tup, asIt_l, wipe_nil, wipe_cons, tuple_l, len_tup, TQ_id, wp_for, List.length_set, wp_turnFor, List.map_cons, List.map_nil, List.length_cons, List.length_nil, List.cons_append, List.nil_append, List.replicate, Bool.not_true, Bool.not_false, Bool.and_self, Bool.true_and, Bool.and_true, Bool.false_and, Bool.and_false, decide_true, decide_false]
abbrev S60 : Int := 1000000000000000000000000000000000000000000000000000000000000
def shortI (i : Int) : Bool := decide (-S60 < i) && decide (i < S60)
theorem s1 {i : Int} : WP (PH (k+2) 1 [.int i]) M R = R (.d (.bl (shortI i))) M := by
  rw [wp_phi (d := d_is_short) rfl rfl]
  unfold d_is_short
  simp only [wp_cons, wp_nil, wp_if, wb, wp_cmp, wp_idx, wp_var, wp_cst, getP_0, getP_s, optP_some, cop_lt, cop_le, cop_gt, cop_ge, cop_eq, cop_ne, isB_bl, wp_asg, wp_bin, wp_blt, wp_rsC, wp_rsN, bi_int, bi_intb, bi_abs, bi_max, bi_min, bi_gcd, bop_add, bop_sub, stl_d, stl_l, tgt_nm, tgt_tp, tgts_nil, tgts_cons, sets_nil, sets_cons, nxt_nx, nxt_rt, nxt_bk, nxt_ct, List.set_cons_succ, List.set_cons_zero, wp_rt, wp_rtN, wp_pass, wp_brk, wp_cont, finR_rt, finR_nx, wp_expr, wp_par, wp_call, wp_esC, wp_esN, wp_esS, wp_tup, wp_lst, wp_neg, isI_int, wp_nt, wp_and, wp_or, wp_ite, wp_isin, wp_chain, isI_ty, isI_tb, isT_tt, wp_comp, wp_turn, wp_itS, wp_itR, wp_itZ, wp_itE, asIt_tup, asIt_l, wipe_nil, wipe_cons, tuple_l, len_tup, TQ_id, wp_for, List.length_set, wp_turnFor, List.map_cons, List.map_nil, List.length_cons, List.length_nil, List.cons_append, List.nil_append, List.replicate, Bool.not_true, Bool.not_false, Bool.and_self, Bool.true_and, Bool.and_true, Bool.false_and, Bool.and_false, decide_true, decide_false]
  rw [s0]
  simp only [wp_cons, wp_nil, wp_if, wb, wp_cmp, wp_idx, wp_var, wp_cst, getP_0, getP_s, optP_some, cop_lt, cop_le, cop_gt, cop_ge, cop_eq, cop_ne, isB_bl, wp_asg, wp_bin, wp_blt, wp_rsC, wp_rsN, bi_int, bi_intb, bi_abs, bi_max, bi_min, bi_gcd, bop_add, bop_sub, stl_d, stl_l, tgt_nm, tgt_tp, tgts_nil, tgts_cons, sets_nil, sets_cons, nxt_nx, nxt_rt, nxt_bk, nxt_ct, List.set_cons_succ, List.set_cons_zero, wp_rt, wp_rtN, wp_pass, wp_brk, wp_cont, finR_rt, finR_nx, wp_expr, wp_par, wp_call, wp_esC, wp_esN, wp_esS, wp_tup, wp_lst, wp_neg, isI_int, wp_nt, wp_and, wp_or, wp_ite, wp_isin, wp_chain, isI_ty, isI_tb, isT_tt, wp_comp, wp_turn, wp_itS, wp_itR, wp_itZ, wp_itE, asIt_tup, asIt_l, wipe_nil, wipe_cons, tuple_l, len_tup, TQ_id, wp_for, List.length_set, wp_turnFor, List.map_cons, List.map_nil, List.length_cons, List.length_nil, List.cons_append, List.nil_append, List.replicate, Bool.not_true, Bool.not_false, Bool.and_self, Bool.true_and, Bool.and_true, Bool.false_and, Bool.and_false, decide_true, decide_false]
  unfold shortI
  cases decide (-S60 < i) <;> simp
theorem s2 {is : List Int} {m : Int} (hl : is.length ≤ 100) : WP (PH (k+3) 2 [.int m, dI is]) M R = R (.d (.bl (decide ((is.length : Int) = m + 1) && is.all shortI))) M := by
  rw [wp_phi (d := d_is_form_in) rfl rfl]
  unfold d_is_form_in
  simp only [wp_cons, wp_nil, wp_if, wb, wp_cmp, wp_idx, wp_var, wp_cst, getP_0, getP_s, optP_some, cop_lt, cop_le, cop_gt, cop_ge, cop_eq, cop_ne, isB_bl, wp_asg, wp_bin, wp_blt, wp_rsC, wp_rsN, bi_int, bi_intb, bi_abs, bi_max, bi_min, bi_gcd, bop_add, bop_sub, stl_d, stl_l, tgt_nm, tgt_tp, tgts_nil, tgts_cons, sets_nil, sets_cons, nxt_nx, nxt_rt, nxt_bk, nxt_ct, List.set_cons_succ, List.set_cons_zero, wp_rt, wp_rtN, wp_pass, wp_brk, wp_cont, finR_rt, finR_nx, wp_expr, wp_par, wp_call, wp_esC, wp_esN, wp_esS, wp_tup, wp_lst, wp_neg, isI_int, wp_nt, wp_and, wp_or, wp_ite, wp_isin, wp_chain, isI_ty, isI_tb, isT_tt, wp_comp, wp_turn, wp_itS, wp_itR, wp_itZ, wp_itE, asIt_tup, asIt_l, wipe_nil, wipe_cons, tuple_l, len_tup, TQ_id, wp_for, List.length_set, wp_turnFor, List.map_cons, List.map_nil, List.length_cons, List.length_nil, List.cons_append, List.nil_append, List.replicate, Bool.not_true, Bool.not_false, Bool.and_self, Bool.true_and, Bool.and_true, Bool.false_and, Bool.and_false, decide_true, decide_false]
  rw [List.length_map]
  by_cases h : (is.length : Int) = m + 1
  · rw [decide_eq_true h]
    simp only [wp_cons, wp_nil, wp_if, wb, wp_cmp, wp_idx, wp_var, wp_cst, getP_0, getP_s, optP_some, cop_lt, cop_le, cop_gt, cop_ge, cop_eq, cop_ne, isB_bl, wp_asg, wp_bin, wp_blt, wp_rsC, wp_rsN, bi_int, bi_intb, bi_abs, bi_max, bi_min, bi_gcd, bop_add, bop_sub, stl_d, stl_l, tgt_nm, tgt_tp, tgts_nil, tgts_cons, sets_nil, sets_cons, nxt_nx, nxt_rt, nxt_bk, nxt_ct, List.set_cons_succ, List.set_cons_zero, wp_rt, wp_rtN, wp_pass, wp_brk, wp_cont, finR_rt, finR_nx, wp_expr, wp_par, wp_call, wp_esC, wp_esN, wp_esS, wp_tup, wp_lst, wp_neg, isI_int, wp_nt, wp_and, wp_or, wp_ite, wp_isin, wp_chain, isI_ty, isI_tb, isT_tt, wp_comp, wp_turn, wp_itS, wp_itR, wp_itZ, wp_itE, asIt_tup, asIt_l, wipe_nil, wipe_cons, tuple_l, len_tup, TQ_id, wp_for, List.length_set, wp_turnFor, List.map_cons, List.map_nil, List.length_cons, List.length_nil, List.cons_append, List.nil_append, List.replicate, Bool.not_true, Bool.not_false, Bool.and_self, Bool.true_and, Bool.and_true, Bool.false_and, Bool.and_false, decide_true, decide_false]
    rw [wp_compPure (fun d => match d with | .int i => .bl (shortI i) | d => d) (by rw [List.length_map]; unfold line; omega) (fun d hd => ?_)]
    · simp only [List.map_map]
      have e : (is.map ((fun d => match d with | .int i => .bl (shortI i) | d => d) ∘ D.int)) = (is.map shortI).map D.bl := by
        rw [List.map_map]; rfl
      rw [e, all_bools]
      simp only [wp_cons, wp_nil, wp_if, wb, wp_cmp, wp_idx, wp_var, wp_cst, getP_0, getP_s, optP_some, cop_lt, cop_le, cop_gt, cop_ge, cop_eq, cop_ne, isB_bl, wp_asg, wp_bin, wp_blt, wp_rsC, wp_rsN, bi_int, bi_intb, bi_abs, bi_max, bi_min, bi_gcd, bop_add, bop_sub, stl_d, stl_l, tgt_nm, tgt_tp, tgts_nil, tgts_cons, sets_nil, sets_cons, nxt_nx, nxt_rt, nxt_bk, nxt_ct, List.set_cons_succ, List.set_cons_zero, wp_rt, wp_rtN, wp_pass, wp_brk, wp_cont, finR_rt, finR_nx, wp_expr, wp_par, wp_call, wp_esC, wp_esN, wp_esS, wp_tup, wp_lst, wp_neg, isI_int, wp_nt, wp_and, wp_or, wp_ite, wp_isin, wp_chain, isI_ty, isI_tb, isT_tt, wp_comp, wp_turn, wp_itS, wp_itR, wp_itZ, wp_itE, asIt_tup, asIt_l, wipe_nil, wipe_cons, tuple_l, len_tup, TQ_id, wp_for, List.length_set, wp_turnFor, List.map_cons, List.map_nil, List.length_cons, List.length_nil, List.cons_append, List.nil_append, List.replicate, Bool.not_true, Bool.not_false, Bool.and_self, Bool.true_and, Bool.and_true, Bool.false_and, Bool.and_false, decide_true, decide_false]
      simp [List.all_map, Function.comp_def]
    · obtain ⟨i, _, rfl⟩ := List.mem_map.mp hd
      simp only [wp_cons, wp_nil, wp_if, wb, wp_cmp, wp_idx, wp_var, wp_cst, getP_0, getP_s, optP_some, cop_lt, cop_le, cop_gt, cop_ge, cop_eq, cop_ne, isB_bl, wp_asg, wp_bin, wp_blt, wp_rsC, wp_rsN, bi_int, bi_intb, bi_abs, bi_max, bi_min, bi_gcd, bop_add, bop_sub, stl_d, stl_l, tgt_nm, tgt_tp, tgts_nil, tgts_cons, sets_nil, sets_cons, nxt_nx, nxt_rt, nxt_bk, nxt_ct, List.set_cons_succ, List.set_cons_zero, wp_rt, wp_rtN, wp_pass, wp_brk, wp_cont, finR_rt, finR_nx, wp_expr, wp_par, wp_call, wp_esC, wp_esN, wp_esS, wp_tup, wp_lst, wp_neg, isI_int, wp_nt, wp_and, wp_or, wp_ite, wp_isin, wp_chain, isI_ty, isI_tb, isT_tt, wp_comp, wp_turn, wp_itS, wp_itR, wp_itZ, wp_itE, asIt_tup, asIt_l, wipe_nil, wipe_cons, tuple_l, len_tup, TQ_id, wp_for, List.length_set, wp_turnFor, List.map_cons, List.map_nil, List.length_cons, List.length_nil, List.cons_append, List.nil_append, List.replicate, Bool.not_true, Bool.not_false, Bool.and_self, Bool.true_and, Bool.and_true, Bool.false_and, Bool.and_false, decide_true, decide_false]
      rw [s1]
      simp only [wp_cons, wp_nil, wp_if, wb, wp_cmp, wp_idx, wp_var, wp_cst, getP_0, getP_s, optP_some, cop_lt, cop_le, cop_gt, cop_ge, cop_eq, cop_ne, isB_bl, wp_asg, wp_bin, wp_blt, wp_rsC, wp_rsN, bi_int, bi_intb, bi_abs, bi_max, bi_min, bi_gcd, bop_add, bop_sub, stl_d, stl_l, tgt_nm, tgt_tp, tgts_nil, tgts_cons, sets_nil, sets_cons, nxt_nx, nxt_rt, nxt_bk, nxt_ct, List.set_cons_succ, List.set_cons_zero, wp_rt, wp_rtN, wp_pass, wp_brk, wp_cont, finR_rt, finR_nx, wp_expr, wp_par, wp_call, wp_esC, wp_esN, wp_esS, wp_tup, wp_lst, wp_neg, isI_int, wp_nt, wp_and, wp_or, wp_ite, wp_isin, wp_chain, isI_ty, isI_tb, isT_tt, wp_comp, wp_turn, wp_itS, wp_itR, wp_itZ, wp_itE, asIt_tup, asIt_l, wipe_nil, wipe_cons, tuple_l, len_tup, TQ_id, wp_for, List.length_set, wp_turnFor, List.map_cons, List.map_nil, List.length_cons, List.length_nil, List.cons_append, List.nil_append, List.replicate, Bool.not_true, Bool.not_false, Bool.and_self, Bool.true_and, Bool.and_true, Bool.false_and, Bool.and_false, decide_true, decide_false]
      exact ⟨trivial, trivial⟩
  · rw [decide_eq_false h]
    simp only [wp_cons, wp_nil, wp_if, wb, wp_cmp, wp_idx, wp_var, wp_cst, getP_0, getP_s, optP_some, cop_lt, cop_le, cop_gt, cop_ge, cop_eq, cop_ne, isB_bl, wp_asg, wp_bin, wp_blt, wp_rsC, wp_rsN, bi_int, bi_intb, bi_abs, bi_max, bi_min, bi_gcd, bop_add, bop_sub, stl_d, stl_l, tgt_nm, tgt_tp, tgts_nil, tgts_cons, sets_nil, sets_cons, nxt_nx, nxt_rt, nxt_bk, nxt_ct, List.set_cons_succ, List.set_cons_zero, wp_rt, wp_rtN, wp_pass, wp_brk, wp_cont, finR_rt, finR_nx, wp_expr, wp_par, wp_call, wp_esC, wp_esN, wp_esS, wp_tup, wp_lst, wp_neg, isI_int, wp_nt, wp_and, wp_or, wp_ite, wp_isin, wp_chain, isI_ty, isI_tb, isT_tt, wp_comp, wp_turn, wp_itS, wp_itR, wp_itZ, wp_itE, asIt_tup, asIt_l, wipe_nil, wipe_cons, tuple_l, len_tup, TQ_id, wp_for, List.length_set, wp_turnFor, List.map_cons, List.map_nil, List.length_cons, List.length_nil, List.cons_append, List.nil_append, List.replicate, Bool.not_true, Bool.not_false, Bool.and_self, Bool.true_and, Bool.and_true, Bool.false_and, Bool.and_false, decide_true, decide_false]
theorem s3 {is : List Int} (hl : is.length ≤ 100) : WP (PH (k+4) 3 [dI is]) M R = R (.d (.bl (decide (1 ≤ is.length ∧ is.length ≤ 15) && is.all shortI))) M := by
  rw [wp_phi (d := d_is_any_form) rfl rfl]
  unfold d_is_any_form
  simp only [wp_cons, wp_nil, wp_if, wb, wp_cmp, wp_idx, wp_var, wp_cst, getP_0, getP_s, optP_some, cop_lt, cop_le, cop_gt, cop_ge, cop_eq, cop_ne, isB_bl, wp_asg, wp_bin, wp_blt, wp_rsC, wp_rsN, bi_int, bi_intb, bi_abs, bi_max, bi_min, bi_gcd, bop_add, bop_sub, stl_d, stl_l, tgt_nm, tgt_tp, tgts_nil, tgts_cons, sets_nil, sets_cons, nxt_nx, nxt_rt, nxt_bk, nxt_ct, List.set_cons_succ, List.set_cons_zero, wp_rt, wp_rtN, wp_pass, wp_brk, wp_cont, finR_rt, finR_nx, wp_expr, wp_par, wp_call, wp_esC, wp_esN, wp_esS, wp_tup, wp_lst, wp_neg, isI_int, wp_nt, wp_and, wp_or, wp_ite, wp_isin, wp_chain, isI_ty, isI_tb, isT_tt, wp_comp, wp_turn, wp_itS, wp_itR, wp_itZ, wp_itE, asIt_tup, asIt_l, wipe_nil, wipe_cons, tuple_l, len_tup, TQ_id, wp_for, List.length_set, wp_turnFor, List.map_cons, List.map_nil, List.length_cons, List.length_nil, List.cons_append, List.nil_append, List.replicate, Bool.not_true, Bool.not_false, Bool.and_self, Bool.true_and, Bool.and_true, Bool.false_and, Bool.and_false, decide_true, decide_false]
  rw [List.length_map]
  by_cases h : (1 : Int) ≤ is.length
  · rw [decide_eq_true h]
    simp only [wp_cons, wp_nil, wp_if, wb, wp_cmp, wp_idx, wp_var, wp_cst, getP_0, getP_s, optP_some, cop_lt, cop_le, cop_gt, cop_ge, cop_eq, cop_ne, isB_bl, wp_asg, wp_bin, wp_blt, wp_rsC, wp_rsN, bi_int, bi_intb, bi_abs, bi_max, bi_min, bi_gcd, bop_add, bop_sub, stl_d, stl_l, tgt_nm, tgt_tp, tgts_nil, tgts_cons, sets_nil, sets_cons, nxt_nx, nxt_rt, nxt_bk, nxt_ct, List.set_cons_succ, List.set_cons_zero, wp_rt, wp_rtN, wp_pass, wp_brk, wp_cont, finR_rt, finR_nx, wp_expr, wp_par, wp_call, wp_esC, wp_esN, wp_esS, wp_tup, wp_lst, wp_neg, isI_int, wp_nt, wp_and, wp_or, wp_ite, wp_isin, wp_chain, isI_ty, isI_tb, isT_tt, wp_comp, wp_turn, wp_itS, wp_itR, wp_itZ, wp_itE, asIt_tup, asIt_l, wipe_nil, wipe_cons, tuple_l, len_tup, TQ_id, wp_for, List.length_set, wp_turnFor, List.map_cons, List.map_nil, List.length_cons, List.length_nil, List.cons_append, List.nil_append, List.replicate, Bool.not_true, Bool.not_false, Bool.and_self, Bool.true_and, Bool.and_true, Bool.false_and, Bool.and_false, decide_true, decide_false]
    by_cases h2 : (is.length : Int) ≤ 14 + 1
    · rw [decide_eq_true h2]
      simp only [wp_cons, wp_nil, wp_if, wb, wp_cmp, wp_idx, wp_var, wp_cst, getP_0, getP_s, optP_some, cop_lt, cop_le, cop_gt, cop_ge, cop_eq, cop_ne, isB_bl, wp_asg, wp_bin, wp_blt, wp_rsC, wp_rsN, bi_int, bi_intb, bi_abs, bi_max, bi_min, bi_gcd, bop_add, bop_sub, stl_d, stl_l, tgt_nm, tgt_tp, tgts_nil, tgts_cons, sets_nil, sets_cons, nxt_nx, nxt_rt, nxt_bk, nxt_ct, List.set_cons_succ, List.set_cons_zero, wp_rt, wp_rtN, wp_pass, wp_brk, wp_cont, finR_rt, finR_nx, wp_expr, wp_par, wp_call, wp_esC, wp_esN, wp_esS, wp_tup, wp_lst, wp_neg, isI_int, wp_nt, wp_and, wp_or, wp_ite, wp_isin, wp_chain, isI_ty, isI_tb, isT_tt, wp_comp, wp_turn, wp_itS, wp_itR, wp_itZ, wp_itE, asIt_tup, asIt_l, wipe_nil, wipe_cons, tuple_l, len_tup, TQ_id, wp_for, List.length_set, wp_turnFor, List.map_cons, List.map_nil, List.length_cons, List.length_nil, List.cons_append, List.nil_append, List.replicate, Bool.not_true, Bool.not_false, Bool.and_self, Bool.true_and, Bool.and_true, Bool.false_and, Bool.and_false, decide_true, decide_false]
      rw [s2 hl]
      simp only [wp_cons, wp_nil, wp_if, wb, wp_cmp, wp_idx, wp_var, wp_cst, getP_0, getP_s, optP_some, cop_lt, cop_le, cop_gt, cop_ge, cop_eq, cop_ne, isB_bl, wp_asg, wp_bin, wp_blt, wp_rsC, wp_rsN, bi_int, bi_intb, bi_abs, bi_max, bi_min, bi_gcd, bop_add, bop_sub, stl_d, stl_l, tgt_nm, tgt_tp, tgts_nil, tgts_cons, sets_nil, sets_cons, nxt_nx, nxt_rt, nxt_bk, nxt_ct, List.set_cons_succ, List.set_cons_zero, wp_rt, wp_rtN, wp_pass, wp_brk, wp_cont, finR_rt, finR_nx, wp_expr, wp_par, wp_call, wp_esC, wp_esN, wp_esS, wp_tup, wp_lst, wp_neg, isI_int, wp_nt, wp_and, wp_or, wp_ite, wp_isin, wp_chain, isI_ty, isI_tb, isT_tt, wp_comp, wp_turn, wp_itS, wp_itR, wp_itZ, wp_itE, asIt_tup, asIt_l, wipe_nil, wipe_cons, tuple_l, len_tup, TQ_id, wp_for, List.length_set, wp_turnFor, List.map_cons, List.map_nil, List.length_cons, List.length_nil, List.cons_append, List.nil_append, List.replicate, Bool.not_true, Bool.not_false, Bool.and_self, Bool.true_and, Bool.and_true, Bool.false_and, Bool.and_false, decide_true, decide_false]
      have e1 : ((is.length : Int) = (is.length : Int) - 1 + 1) := by omega
      have e2 : (1 ≤ is.length ∧ is.length ≤ 15) := by omega
      rw [decide_eq_true e1, decide_eq_true e2]
    · rw [decide_eq_false h2]
      have e2 : ¬ (1 ≤ is.length ∧ is.length ≤ 15) := by omega
      rw [decide_eq_false e2]
      simp only [wp_cons, wp_nil, wp_if, wb, wp_cmp, wp_idx, wp_var, wp_cst, getP_0, getP_s, optP_some, cop_lt, cop_le, cop_gt, cop_ge, cop_eq, cop_ne, isB_bl, wp_asg, wp_bin, wp_blt, wp_rsC, wp_rsN, bi_int, bi_intb, bi_abs, bi_max, bi_min, bi_gcd, bop_add, bop_sub, stl_d, stl_l, tgt_nm, tgt_tp, tgts_nil, tgts_cons, sets_nil, sets_cons, nxt_nx, nxt_rt, nxt_bk, nxt_ct, List.set_cons_succ, List.set_cons_zero, wp_rt, wp_rtN, wp_pass, wp_brk, wp_cont, finR_rt, finR_nx, wp_expr, wp_par, wp_call, wp_esC, wp_esN, wp_esS, wp_tup, wp_lst, wp_neg, isI_int, wp_nt, wp_and, wp_or, wp_ite, wp_isin, wp_chain, isI_ty, isI_tb, isT_tt, wp_comp, wp_turn, wp_itS, wp_itR, wp_itZ, wp_itE, asIt_tup, asIt_l, wipe_nil, wipe_cons, tuple_l, len_tup, TQ_id, wp_for, List.length_set, wp_turnFor, List.map_cons, List.map_nil, List.length_cons, List.length_nil, List.cons_append, List.nil_append, List.replicate, Bool.not_true, Bool.not_false, Bool.and_self, Bool.true_and, Bool.and_true, Bool.false_and, Bool.and_false, decide_true, decide_false]
  · rw [decide_eq_false h]
    have e2 : ¬ (1 ≤ is.length ∧ is.length ≤ 15) := by omega
    rw [decide_eq_false e2]
    simp only [wp_cons, wp_nil, wp_if, wb, wp_cmp, wp_idx, wp_var, wp_cst, getP_0, getP_s, optP_some, cop_lt, cop_le, cop_gt, cop_ge, cop_eq, cop_ne, isB_bl, wp_asg, wp_bin, wp_blt, wp_rsC, wp_rsN, bi_int, bi_intb, bi_abs, bi_max, bi_min, bi_gcd, bop_add, bop_sub, stl_d, stl_l, tgt_nm, tgt_tp, tgts_nil, tgts_cons, sets_nil, sets_cons, nxt_nx, nxt_rt, nxt_bk, nxt_ct, List.set_cons_succ, List.set_cons_zero, wp_rt, wp_rtN, wp_pass, wp_brk, wp_cont, finR_rt, finR_nx, wp_expr, wp_par, wp_call, wp_esC, wp_esN, wp_esS, wp_tup, wp_lst, wp_neg, isI_int, wp_nt, wp_and, wp_or, wp_ite, wp_isin, wp_chain, isI_ty, isI_tb, isT_tt, wp_comp, wp_turn, wp_itS, wp_itR, wp_itZ, wp_itE, asIt_tup, asIt_l, wipe_nil, wipe_cons, tuple_l, len_tup, TQ_id, wp_for, List.length_set, wp_turnFor, List.map_cons, List.map_nil, List.length_cons, List.length_nil, List.cons_append, List.nil_append, List.replicate, Bool.not_true, Bool.not_false, Bool.and_self, Bool.true_and, Bool.and_true, Bool.false_and, Bool.and_false, decide_true, decide_false]
theorem ix0 {M : Ar} {d : D} {ds : List D} : index (.d (.tup (d :: ds))) (.d (.int 0)) M = some (.d d) := by
  show (match (some (d :: ds)).bind (atD · 0) with | some d => some (Rv.d d) | none => none) = _
  have : atD (d :: ds) 0 = some d := by
    unfold atD
    rw [ixD_nat (by decide) (by simp)]; rfl
  simp only [Option.bind_some, this]
theorem ix0I {M : Ar} {i : Int} {is : List Int} : index (.d (dI (i :: is))) (.d (.int 0)) M = some (.d (.int i)) := ix0
theorem s4 {i : Int} {is : List Int} {m : Int} (hl : is.length ≤ 90) (hm : ((i :: is).length : Int) = m + 1) : WP (PH (k+2) 4 [.int m, dI (i :: is)]) M R = R (.d (.bl (decide (0 ≤ i)))) M := by
  rw [wp_phi (d := d_is_vector_in) rfl rfl]
  unfold d_is_vector_in
  simp only [wp_cons, wp_nil, wp_if, wb, wp_cmp, wp_idx, wp_var, wp_cst, getP_0, getP_s, optP_some, cop_lt, cop_le, cop_gt, cop_ge, cop_eq, cop_ne, isB_bl, wp_asg, wp_bin, wp_blt, wp_rsC, wp_rsN, bi_int, bi_intb, bi_abs, bi_max, bi_min, bi_gcd, bop_add, bop_sub, stl_d, stl_l, tgt_nm, tgt_tp, tgts_nil, tgts_cons, sets_nil, sets_cons, nxt_nx, nxt_rt, nxt_bk, nxt_ct, List.set_cons_succ, List.set_cons_zero, wp_rt, wp_rtN, wp_pass, wp_brk, wp_cont, finR_rt, finR_nx, wp_expr, wp_par, wp_call, wp_esC, wp_esN, wp_esS, wp_tup, wp_lst, wp_neg, isI_int, wp_nt, wp_and, wp_or, wp_ite, wp_isin, wp_chain, isI_ty, isI_tb, isT_tt, wp_comp, wp_turn, wp_itS, wp_itR, wp_itZ, wp_itE, asIt_tup, asIt_l, wipe_nil, wipe_cons, tuple_l, len_tup, TQ_id, wp_for, List.length_set, wp_turnFor, List.map_cons, List.map_nil, List.length_cons, List.length_nil, List.cons_append, List.nil_append, List.replicate, Bool.not_true, Bool.not_false, Bool.and_self, Bool.true_and, Bool.and_true, Bool.false_and, Bool.and_false, decide_true, decide_false]
  have e : ((List.map D.int is).length + 1 : Nat) = m + 1 := by rw [List.length_map]; exact hm
  rw [decide_eq_true e]
  simp only [wp_cons, wp_nil, wp_if, wb, wp_cmp, wp_idx, wp_var, wp_cst, getP_0, getP_s, optP_some, cop_lt, cop_le, cop_gt, cop_ge, cop_eq, cop_ne, isB_bl, wp_asg, wp_bin, wp_blt, wp_rsC, wp_rsN, bi_int, bi_intb, bi_abs, bi_max, bi_min, bi_gcd, bop_add, bop_sub, stl_d, stl_l, tgt_nm, tgt_tp, tgts_nil, tgts_cons, sets_nil, sets_cons, nxt_nx, nxt_rt, nxt_bk, nxt_ct, List.set_cons_succ, List.set_cons_zero, wp_rt, wp_rtN, wp_pass, wp_brk, wp_cont, finR_rt, finR_nx, wp_expr, wp_par, wp_call, wp_esC, wp_esN, wp_esS, wp_tup, wp_lst, wp_neg, isI_int, wp_nt, wp_and, wp_or, wp_ite, wp_isin, wp_chain, isI_ty, isI_tb, isT_tt, wp_comp, wp_turn, wp_itS, wp_itR, wp_itZ, wp_itE, asIt_tup, asIt_l, wipe_nil, wipe_cons, tuple_l, len_tup, TQ_id, wp_for, List.length_set, wp_turnFor, List.map_cons, List.map_nil, List.length_cons, List.length_nil, List.cons_append, List.nil_append, List.replicate, Bool.not_true, Bool.not_false, Bool.and_self, Bool.true_and, Bool.and_true, Bool.false_and, Bool.and_false, decide_true, decide_false]
  rw [wp_compPure (fun d => .bl true) (by simp; unfold line; omega) (fun d hd => ?_)]
  · have e : (D.int i :: is.map D.int).map (fun _ => D.bl true) = ((i :: is).map fun _ => true).map D.bl := by simp
    rw [e, all_bools]
    simp only [wp_cons, wp_nil, wp_if, wb, wp_cmp, wp_idx, wp_var, wp_cst, getP_0, getP_s, optP_some, cop_lt, cop_le, cop_gt, cop_ge, cop_eq, cop_ne, isB_bl, wp_asg, wp_bin, wp_blt, wp_rsC, wp_rsN, bi_int, bi_intb, bi_abs, bi_max, bi_min, bi_gcd, bop_add, bop_sub, stl_d, stl_l, tgt_nm, tgt_tp, tgts_nil, tgts_cons, sets_nil, sets_cons, nxt_nx, nxt_rt, nxt_bk, nxt_ct, List.set_cons_succ, List.set_cons_zero, wp_rt, wp_rtN, wp_pass, wp_brk, wp_cont, finR_rt, finR_nx, wp_expr, wp_par, wp_call, wp_esC, wp_esN, wp_esS, wp_tup, wp_lst, wp_neg, isI_int, wp_nt, wp_and, wp_or, wp_ite, wp_isin, wp_chain, isI_ty, isI_tb, isT_tt, wp_comp, wp_turn, wp_itS, wp_itR, wp_itZ, wp_itE, asIt_tup, asIt_l, wipe_nil, wipe_cons, tuple_l, len_tup, TQ_id, wp_for, List.length_set, wp_turnFor, List.map_cons, List.map_nil, List.length_cons, List.length_nil, List.cons_append, List.nil_append, List.replicate, Bool.not_true, Bool.not_false, Bool.and_self, Bool.true_and, Bool.and_true, Bool.false_and, Bool.and_false, decide_true, decide_false]
    rw [ix0I]
    have e : (true :: is.map fun _ => true).all id = true := by simp
    rw [e]
    simp only [wp_cons, wp_nil, wp_if, wb, wp_cmp, wp_idx, wp_var, wp_cst, getP_0, getP_s, optP_some, cop_lt, cop_le, cop_gt, cop_ge, cop_eq, cop_ne, isB_bl, wp_asg, wp_bin, wp_blt, wp_rsC, wp_rsN, bi_int, bi_intb, bi_abs, bi_max, bi_min, bi_gcd, bop_add, bop_sub, stl_d, stl_l, tgt_nm, tgt_tp, tgts_nil, tgts_cons, sets_nil, sets_cons, nxt_nx, nxt_rt, nxt_bk, nxt_ct, List.set_cons_succ, List.set_cons_zero, wp_rt, wp_rtN, wp_pass, wp_brk, wp_cont, finR_rt, finR_nx, wp_expr, wp_par, wp_call, wp_esC, wp_esN, wp_esS, wp_tup, wp_lst, wp_neg, isI_int, wp_nt, wp_and, wp_or, wp_ite, wp_isin, wp_chain, isI_ty, isI_tb, isT_tt, wp_comp, wp_turn, wp_itS, wp_itR, wp_itZ, wp_itE, asIt_tup, asIt_l, wipe_nil, wipe_cons, tuple_l, len_tup, TQ_id, wp_for, List.length_set, wp_turnFor, List.map_cons, List.map_nil, List.length_cons, List.length_nil, List.cons_append, List.nil_append, List.replicate, Bool.not_true, Bool.not_false, Bool.and_self, Bool.true_and, Bool.and_true, Bool.false_and, Bool.and_false, decide_true, decide_false]
  · obtain ⟨j, rfl⟩ : ∃ j, d = .int j := by
      rcases List.mem_cons.mp hd with rfl | hd
      · exact ⟨_, rfl⟩
      · obtain ⟨j, _, rfl⟩ := List.mem_map.mp hd
        exact ⟨_, rfl⟩
    simp only [wp_cons, wp_nil, wp_if, wb, wp_cmp, wp_idx, wp_var, wp_cst, getP_0, getP_s, optP_some, cop_lt, cop_le, cop_gt, cop_ge, cop_eq, cop_ne, isB_bl, wp_asg, wp_bin, wp_blt, wp_rsC, wp_rsN, bi_int, bi_intb, bi_abs, bi_max, bi_min, bi_gcd, bop_add, bop_sub, stl_d, stl_l, tgt_nm, tgt_tp, tgts_nil, tgts_cons, sets_nil, sets_cons, nxt_nx, nxt_rt, nxt_bk, nxt_ct, List.set_cons_succ, List.set_cons_zero, wp_rt, wp_rtN, wp_pass, wp_brk, wp_cont, finR_rt, finR_nx, wp_expr, wp_par, wp_call, wp_esC, wp_esN, wp_esS, wp_tup, wp_lst, wp_neg, isI_int, wp_nt, wp_and, wp_or, wp_ite, wp_isin, wp_chain, isI_ty, isI_tb, isT_tt, wp_comp, wp_turn, wp_itS, wp_itR, wp_itZ, wp_itE, asIt_tup, asIt_l, wipe_nil, wipe_cons, tuple_l, len_tup, TQ_id, wp_for, List.length_set, wp_turnFor, List.map_cons, List.map_nil, List.length_cons, List.length_nil, List.cons_append, List.nil_append, List.replicate, Bool.not_true, Bool.not_false, Bool.and_self, Bool.true_and, Bool.and_true, Bool.false_and, Bool.and_false, decide_true, decide_false]
    rw [s0]
    simp only [wp_cons, wp_nil, wp_if, wb, wp_cmp, wp_idx, wp_var, wp_cst, getP_0, getP_s, optP_some, cop_lt, cop_le, cop_gt, cop_ge, cop_eq, cop_ne, isB_bl, wp_asg, wp_bin, wp_blt, wp_rsC, wp_rsN, bi_int, bi_intb, bi_abs, bi_max, bi_min, bi_gcd, bop_add, bop_sub, stl_d, stl_l, tgt_nm, tgt_tp, tgts_nil, tgts_cons, sets_nil, sets_cons, nxt_nx, nxt_rt, nxt_bk, nxt_ct, List.set_cons_succ, List.set_cons_zero, wp_rt, wp_rtN, wp_pass, wp_brk, wp_cont, finR_rt, finR_nx, wp_expr, wp_par, wp_call, wp_esC, wp_esN, wp_esS, wp_tup, wp_lst, wp_neg, isI_int, wp_nt, wp_and, wp_or, wp_ite, wp_isin, wp_chain, isI_ty, isI_tb, isT_tt, wp_comp, wp_turn, wp_itS, wp_itR, wp_itZ, wp_itE, asIt_tup, asIt_l, wipe_nil, wipe_cons, tuple_l, len_tup, TQ_id, wp_for, List.length_set, wp_turnFor, List.map_cons, List.map_nil, List.length_cons, List.length_nil, List.cons_append, List.nil_append, List.replicate, Bool.not_true, Bool.not_false, Bool.and_self, Bool.true_and, Bool.and_true, Bool.false_and, Bool.and_false, decide_true, decide_false]
    exact ⟨trivial, trivial⟩
def dot (is js : List Int) : Int := ((is.zip js).map fun p => p.1 * p.2).sum
theorem zip_ints : ∀ is js : List Int, zipD (is.map D.int) (js.map D.int) = (is.zip js).map fun p => D.tup [.int p.1, .int p.2]
  | [], _ => rfl
  | _ :: _, [] => rfl
  | i :: is, j :: js => congrArg _ (zip_ints is js)
theorem s5 {is js : List Int} {a b : Nat} (hl : is.length ≤ 100) (hi : ∀ i ∈ is, Bn a i) (hj : ∀ j ∈ js, Bn b j) (hab : a + b < 899990) : WP (PH (k+1) 5 [dI is, dI js]) M R = R (.d (.int (dot is js))) M := by
  rw [wp_phi (d := d_at_in) rfl rfl]
  unfold d_at_in
  simp only [wp_cons, wp_nil, wp_if, wb, wp_cmp, wp_idx, wp_var, wp_cst, getP_0, getP_s, optP_some, cop_lt, cop_le, cop_gt, cop_ge, cop_eq, cop_ne, isB_bl, wp_asg, wp_bin, wp_blt, wp_rsC, wp_rsN, bi_int, bi_intb, bi_abs, bi_max, bi_min, bi_gcd, bop_add, bop_sub, stl_d, stl_l, tgt_nm, tgt_tp, tgts_nil, tgts_cons, sets_nil, sets_cons, nxt_nx, nxt_rt, nxt_bk, nxt_ct, List.set_cons_succ, List.set_cons_zero, wp_rt, wp_rtN, wp_pass, wp_brk, wp_cont, finR_rt, finR_nx, wp_expr, wp_par, wp_call, wp_esC, wp_esN, wp_esS, wp_tup, wp_lst, wp_neg, isI_int, wp_nt, wp_and, wp_or, wp_ite, wp_isin, wp_chain, isI_ty, isI_tb, isT_tt, wp_comp, wp_turn, wp_itS, wp_itR, wp_itZ, wp_itE, asIt_tup, asIt_l, wipe_nil, wipe_cons, tuple_l, len_tup, TQ_id, wp_for, List.length_set, wp_turnFor, List.map_cons, List.map_nil, List.length_cons, List.length_nil, List.cons_append, List.nil_append, List.replicate, Bool.not_true, Bool.not_false, Bool.and_self, Bool.true_and, Bool.and_true, Bool.false_and, Bool.and_false, decide_true, decide_false]
  have e : zipIt (.d (dI is)) (.d (dI js)) M = some (.st ((is.zip js).map fun p => D.tup [.int p.1, .int p.2])) := by
    rw [← zip_ints]; rfl
  rw [e]
  simp only [wp_cons, wp_nil, wp_if, wb, wp_cmp, wp_idx, wp_var, wp_cst, getP_0, getP_s, optP_some, cop_lt, cop_le, cop_gt, cop_ge, cop_eq, cop_ne, isB_bl, wp_asg, wp_bin, wp_blt, wp_rsC, wp_rsN, bi_int, bi_intb, bi_abs, bi_max, bi_min, bi_gcd, bop_add, bop_sub, stl_d, stl_l, tgt_nm, tgt_tp, tgts_nil, tgts_cons, sets_nil, sets_cons, nxt_nx, nxt_rt, nxt_bk, nxt_ct, List.set_cons_succ, List.set_cons_zero, wp_rt, wp_rtN, wp_pass, wp_brk, wp_cont, finR_rt, finR_nx, wp_expr, wp_par, wp_call, wp_esC, wp_esN, wp_esS, wp_tup, wp_lst, wp_neg, isI_int, wp_nt, wp_and, wp_or, wp_ite, wp_isin, wp_chain, isI_ty, isI_tb, isT_tt, wp_comp, wp_turn, wp_itS, wp_itR, wp_itZ, wp_itE, asIt_tup, asIt_l, wipe_nil, wipe_cons, tuple_l, len_tup, TQ_id, wp_for, List.length_set, wp_turnFor, List.map_cons, List.map_nil, List.length_cons, List.length_nil, List.cons_append, List.nil_append, List.replicate, Bool.not_true, Bool.not_false, Bool.and_self, Bool.true_and, Bool.and_true, Bool.false_and, Bool.and_false, decide_true, decide_false]
  rw [wp_compPure (fun d => match d with | .tup [.int x, .int y] => .int (x * y) | d => d) (by simp; unfold line; omega) (fun d hd => ?_)]
  · have e : ((is.zip js).map fun p => D.tup [.int p.1, .int p.2]).map (fun d => match d with | .tup [.int x, .int y] => .int (x * y) | d => d) = ((is.zip js).map fun p => p.1 * p.2).map D.int := by
      rw [List.map_map, List.map_map]; rfl
    rw [e, sum_ints]
    simp only [wp_cons, wp_nil, wp_if, wb, wp_cmp, wp_idx, wp_var, wp_cst, getP_0, getP_s, optP_some, cop_lt, cop_le, cop_gt, cop_ge, cop_eq, cop_ne, isB_bl, wp_asg, wp_bin, wp_blt, wp_rsC, wp_rsN, bi_int, bi_intb, bi_abs, bi_max, bi_min, bi_gcd, bop_add, bop_sub, stl_d, stl_l, tgt_nm, tgt_tp, tgts_nil, tgts_cons, sets_nil, sets_cons, nxt_nx, nxt_rt, nxt_bk, nxt_ct, List.set_cons_succ, List.set_cons_zero, wp_rt, wp_rtN, wp_pass, wp_brk, wp_cont, finR_rt, finR_nx, wp_expr, wp_par, wp_call, wp_esC, wp_esN, wp_esS, wp_tup, wp_lst, wp_neg, isI_int, wp_nt, wp_and, wp_or, wp_ite, wp_isin, wp_chain, isI_ty, isI_tb, isT_tt, wp_comp, wp_turn, wp_itS, wp_itR, wp_itZ, wp_itE, asIt_tup, asIt_l, wipe_nil, wipe_cons, tuple_l, len_tup, TQ_id, wp_for, List.length_set, wp_turnFor, List.map_cons, List.map_nil, List.length_cons, List.length_nil, List.cons_append, List.nil_append, List.replicate, Bool.not_true, Bool.not_false, Bool.and_self, Bool.true_and, Bool.and_true, Bool.false_and, Bool.and_false, decide_true, decide_false]
    rfl
  · obtain ⟨⟨x, y⟩, hp, rfl⟩ := List.mem_map.mp hd
    simp only [wp_cons, wp_nil, wp_if, wb, wp_cmp, wp_idx, wp_var, wp_cst, getP_0, getP_s, optP_some, cop_lt, cop_le, cop_gt, cop_ge, cop_eq, cop_ne, isB_bl, wp_asg, wp_bin, wp_blt, wp_rsC, wp_rsN, bi_int, bi_intb, bi_abs, bi_max, bi_min, bi_gcd, bop_add, bop_sub, stl_d, stl_l, tgt_nm, tgt_tp, tgts_nil, tgts_cons, sets_nil, sets_cons, nxt_nx, nxt_rt, nxt_bk, nxt_ct, List.set_cons_succ, List.set_cons_zero, wp_rt, wp_rtN, wp_pass, wp_brk, wp_cont, finR_rt, finR_nx, wp_expr, wp_par, wp_call, wp_esC, wp_esN, wp_esS, wp_tup, wp_lst, wp_neg, isI_int, wp_nt, wp_and, wp_or, wp_ite, wp_isin, wp_chain, isI_ty, isI_tb, isT_tt, wp_comp, wp_turn, wp_itS, wp_itR, wp_itZ, wp_itE, asIt_tup, asIt_l, wipe_nil, wipe_cons, tuple_l, len_tup, TQ_id, wp_for, List.length_set, wp_turnFor, List.map_cons, List.map_nil, List.length_cons, List.length_nil, List.cons_append, List.nil_append, List.replicate, Bool.not_true, Bool.not_false, Bool.and_self, Bool.true_and, Bool.and_true, Bool.false_and, Bool.and_false, decide_true, decide_false]
    rw [bop_mul (mulOk_of (hi x (List.of_mem_zip hp).1) (hj y (List.of_mem_zip hp).2) hab)]
    simp only [wp_cons, wp_nil, wp_if, wb, wp_cmp, wp_idx, wp_var, wp_cst, getP_0, getP_s, optP_some, cop_lt, cop_le, cop_gt, cop_ge, cop_eq, cop_ne, isB_bl, wp_asg, wp_bin, wp_blt, wp_rsC, wp_rsN, bi_int, bi_intb, bi_abs, bi_max, bi_min, bi_gcd, bop_add, bop_sub, stl_d, stl_l, tgt_nm, tgt_tp, tgts_nil, tgts_cons, sets_nil, sets_cons, nxt_nx, nxt_rt, nxt_bk, nxt_ct, List.set_cons_succ, List.set_cons_zero, wp_rt, wp_rtN, wp_pass, wp_brk, wp_cont, finR_rt, finR_nx, wp_expr, wp_par, wp_call, wp_esC, wp_esN, wp_esS, wp_tup, wp_lst, wp_neg, isI_int, wp_nt, wp_and, wp_or, wp_ite, wp_isin, wp_chain, isI_ty, isI_tb, isT_tt, wp_comp, wp_turn, wp_itS, wp_itR, wp_itZ, wp_itE, asIt_tup, asIt_l, wipe_nil, wipe_cons, tuple_l, len_tup, TQ_id, wp_for, List.length_set, wp_turnFor, List.map_cons, List.map_nil, List.length_cons, List.length_nil, List.cons_append, List.nil_append, List.replicate, Bool.not_true, Bool.not_false, Bool.and_self, Bool.true_and, Bool.and_true, Bool.false_and, Bool.and_false, decide_true, decide_false]
    exact ⟨trivial, trivial⟩
def opp : List Int → List Int
  | [] => []
  | i :: is => (-i - 1) :: is.map fun j => -j
theorem cut1 {α : Type} (d : α) (ds : List α) : cutD (d :: ds) (some 1) none = ds := by
  unfold cutD sIxD
  simp
theorem slice_tup {M : Ar} {ds : List D} {l h : Option Int} : slice (.d (.tup ds)) l h M = some (.d (.tup (cutD ds l h))) := rfl
theorem s6 {i : Int} {is : List Int} (hl : is.length ≤ 100) : WP (PH (k+1) 6 [dI (i :: is)]) M R = R (.d (dI (opp (i :: is)))) M := by
  rw [wp_phi (d := d_opposite_in) rfl rfl]
  unfold d_opposite_in
  simp only [wp_cons, wp_nil, wp_if, wb, wp_cmp, wp_idx, wp_var, wp_cst, getP_0, getP_s, optP_some, cop_lt, cop_le, cop_gt, cop_ge, cop_eq, cop_ne, isB_bl, wp_asg, wp_bin, wp_blt, wp_rsC, wp_rsN, bi_int, bi_intb, bi_abs, bi_max, bi_min, bi_gcd, bop_add, bop_sub, stl_d, stl_l, tgt_nm, tgt_tp, tgts_nil, tgts_cons, sets_nil, sets_cons, nxt_nx, nxt_rt, nxt_bk, nxt_ct, List.set_cons_succ, List.set_cons_zero, wp_rt, wp_rtN, wp_pass, wp_brk, wp_cont, finR_rt, finR_nx, wp_expr, wp_par, wp_call, wp_esC, wp_esN, wp_esS, wp_tup, wp_lst, wp_neg, isI_int, wp_nt, wp_and, wp_or, wp_ite, wp_isin, wp_chain, isI_ty, isI_tb, isT_tt, wp_comp, wp_turn, wp_itS, wp_itR, wp_itZ, wp_itE, asIt_tup, asIt_l, wipe_nil, wipe_cons, tuple_l, len_tup, TQ_id, wp_for, List.length_set, wp_turnFor, List.map_cons, List.map_nil, List.length_cons, List.length_nil, List.cons_append, List.nil_append, List.replicate, Bool.not_true, Bool.not_false, Bool.and_self, Bool.true_and, Bool.and_true, Bool.false_and, Bool.and_false, decide_true, decide_false]
  rw [ix0I]
  simp only [wp_cons, wp_nil, wp_if, wb, wp_cmp, wp_idx, wp_var, wp_cst, getP_0, getP_s, optP_some, cop_lt, cop_le, cop_gt, cop_ge, cop_eq, cop_ne, isB_bl, wp_asg, wp_bin, wp_blt, wp_rsC, wp_rsN, bi_int, bi_intb, bi_abs, bi_max, bi_min, bi_gcd, bop_add, bop_sub, stl_d, stl_l, tgt_nm, tgt_tp, tgts_nil, tgts_cons, sets_nil, sets_cons, nxt_nx, nxt_rt, nxt_bk, nxt_ct, List.set_cons_succ, List.set_cons_zero, wp_rt, wp_rtN, wp_pass, wp_brk, wp_cont, finR_rt, finR_nx, wp_expr, wp_par, wp_call, wp_esC, wp_esN, wp_esS, wp_tup, wp_lst, wp_neg, isI_int, wp_nt, wp_and, wp_or, wp_ite, wp_isin, wp_chain, isI_ty, isI_tb, isT_tt, wp_comp, wp_turn, wp_itS, wp_itR, wp_itZ, wp_itE, asIt_tup, asIt_l, wipe_nil, wipe_cons, tuple_l, len_tup, TQ_id, wp_for, List.length_set, wp_turnFor, List.map_cons, List.map_nil, List.length_cons, List.length_nil, List.cons_append, List.nil_append, List.replicate, Bool.not_true, Bool.not_false, Bool.and_self, Bool.true_and, Bool.and_true, Bool.false_and, Bool.and_false, decide_true, decide_false]
  rw [wp_slcA rfl]
  simp only [wp_cons, wp_nil, wp_if, wb, wp_cmp, wp_idx, wp_var, wp_cst, getP_0, getP_s, optP_some, cop_lt, cop_le, cop_gt, cop_ge, cop_eq, cop_ne, isB_bl, wp_asg, wp_bin, wp_blt, wp_rsC, wp_rsN, bi_int, bi_intb, bi_abs, bi_max, bi_min, bi_gcd, bop_add, bop_sub, stl_d, stl_l, tgt_nm, tgt_tp, tgts_nil, tgts_cons, sets_nil, sets_cons, nxt_nx, nxt_rt, nxt_bk, nxt_ct, List.set_cons_succ, List.set_cons_zero, wp_rt, wp_rtN, wp_pass, wp_brk, wp_cont, finR_rt, finR_nx, wp_expr, wp_par, wp_call, wp_esC, wp_esN, wp_esS, wp_tup, wp_lst, wp_neg, isI_int, wp_nt, wp_and, wp_or, wp_ite, wp_isin, wp_chain, isI_ty, isI_tb, isT_tt, wp_comp, wp_turn, wp_itS, wp_itR, wp_itZ, wp_itE, asIt_tup, asIt_l, wipe_nil, wipe_cons, tuple_l, len_tup, TQ_id, wp_for, List.length_set, wp_turnFor, List.map_cons, List.map_nil, List.length_cons, List.length_nil, List.cons_append, List.nil_append, List.replicate, Bool.not_true, Bool.not_false, Bool.and_self, Bool.true_and, Bool.and_true, Bool.false_and, Bool.and_false, decide_true, decide_false]
  rw [slice_tup, List.map_cons, cut1]
  simp only [wp_cons, wp_nil, wp_if, wb, wp_cmp, wp_idx, wp_var, wp_cst, getP_0, getP_s, optP_some, cop_lt, cop_le, cop_gt, cop_ge, cop_eq, cop_ne, isB_bl, wp_asg, wp_bin, wp_blt, wp_rsC, wp_rsN, bi_int, bi_intb, bi_abs, bi_max, bi_min, bi_gcd, bop_add, bop_sub, stl_d, stl_l, tgt_nm, tgt_tp, tgts_nil, tgts_cons, sets_nil, sets_cons, nxt_nx, nxt_rt, nxt_bk, nxt_ct, List.set_cons_succ, List.set_cons_zero, wp_rt, wp_rtN, wp_pass, wp_brk, wp_cont, finR_rt, finR_nx, wp_expr, wp_par, wp_call, wp_esC, wp_esN, wp_esS, wp_tup, wp_lst, wp_neg, isI_int, wp_nt, wp_and, wp_or, wp_ite, wp_isin, wp_chain, isI_ty, isI_tb, isT_tt, wp_comp, wp_turn, wp_itS, wp_itR, wp_itZ, wp_itE, asIt_tup, asIt_l, wipe_nil, wipe_cons, tuple_l, len_tup, TQ_id, wp_for, List.length_set, wp_turnFor, List.map_cons, List.map_nil, List.length_cons, List.length_nil, List.cons_append, List.nil_append, List.replicate, Bool.not_true, Bool.not_false, Bool.and_self, Bool.true_and, Bool.and_true, Bool.false_and, Bool.and_false, decide_true, decide_false]
  rw [wp_compPure (fun d => match d with | .int x => .int (-x) | d => d) (by simp; unfold line; omega) (fun d hd => ?_)]
  · have e : (is.map D.int).map (fun d => match d with | .int x => D.int (-x) | d => d) = (is.map fun j => -j).map D.int := by
      rw [List.map_map, List.map_map]; rfl
    rw [e]
    show ((((is.map fun j => -j).map D.int) ++ []).length + 1 ≤ line ∧ R (.d (.tup (.int (-i - 1) :: (((is.map fun j => -j).map D.int) ++ [])))) M) = _
    rw [List.append_nil, List.length_map, List.length_map]
    exact propext ⟨fun z => z.2, fun z => ⟨by unfold line; omega, z⟩⟩
  · obtain ⟨j, _, rfl⟩ := List.mem_map.mp hd
    simp only [wp_cons, wp_nil, wp_if, wb, wp_cmp, wp_idx, wp_var, wp_cst, getP_0, getP_s, optP_some, cop_lt, cop_le, cop_gt, cop_ge, cop_eq, cop_ne, isB_bl, wp_asg, wp_bin, wp_blt, wp_rsC, wp_rsN, bi_int, bi_intb, bi_abs, bi_max, bi_min, bi_gcd, bop_add, bop_sub, stl_d, stl_l, tgt_nm, tgt_tp, tgts_nil, tgts_cons, sets_nil, sets_cons, nxt_nx, nxt_rt, nxt_bk, nxt_ct, List.set_cons_succ, List.set_cons_zero, wp_rt, wp_rtN, wp_pass, wp_brk, wp_cont, finR_rt, finR_nx, wp_expr, wp_par, wp_call, wp_esC, wp_esN, wp_esS, wp_tup, wp_lst, wp_neg, isI_int, wp_nt, wp_and, wp_or, wp_ite, wp_isin, wp_chain, isI_ty, isI_tb, isT_tt, wp_comp, wp_turn, wp_itS, wp_itR, wp_itZ, wp_itE, asIt_tup, asIt_l, wipe_nil, wipe_cons, tuple_l, len_tup, TQ_id, wp_for, List.length_set, wp_turnFor, List.map_cons, List.map_nil, List.length_cons, List.length_nil, List.cons_append, List.nil_append, List.replicate, Bool.not_true, Bool.not_false, Bool.and_self, Bool.true_and, Bool.and_true, Bool.false_and, Bool.and_false, decide_true, decide_false]
    exact ⟨trivial, trivial⟩
/-! greatest shared divisor -/
def gl (is : List Int) : Nat := is.foldl (fun g i => Nat.gcd g i.natAbs) 0
def low (is : List Int) : List Int := if gl is > 1 then is.map fun i => i / (gl is : Int) else is
theorem gcd_le {a b n : Nat} (h : a ≤ n) (g : b ≤ n) : Nat.gcd a b ≤ n := by
  by_cases z : a = 0
  · subst z; rw [Nat.gcd_zero_left]; exact g
  · exact Nat.le_trans (Nat.gcd_le_left b (Nat.pos_of_ne_zero z)) h
theorem foldl_le {n : Nat} : ∀ (is : List Int) (g : Nat), g ≤ n → (∀ i ∈ is, i.natAbs ≤ n) → is.foldl (fun g i => Nat.gcd g i.natAbs) g ≤ n
  | [], g, h, _ => h
  | i :: is, g, h, hi => foldl_le is _ (gcd_le h (hi i (List.mem_cons_self ..))) fun j hj => hi j (List.mem_cons_of_mem _ hj)
theorem gl_bn {n : Nat} {is : List Int} (h : ∀ i ∈ is, Bn n i) : Bn n (gl is : Int) := by
  unfold Bn
  rw [Int.natAbs_natCast]
  exact foldl_le is 0 (Nat.zero_le _) h
theorem gl_take (is : List Int) (n : Nat) (h : n < is.length) : gl (is.take (n + 1)) = Nat.gcd (gl (is.take n)) (is[n]).natAbs := by
  unfold gl
  rw [List.take_succ_eq_append_getElem h, List.foldl_append]; rfl
theorem s7 {is : List Int} (hl : is.length ≤ 100) {n : Nat} (hn : n < 8000) (hi : ∀ i ∈ is, Bn n i) : WP (PH (k+1) 7 [dI is]) M R = R (.d (dI (low is))) M := by
  refine wp_exact ?_
  rw [wp_phi (d := d_lowest_in) rfl rfl]
  unfold d_lowest_in
  simp only [wp_cons, wp_nil, wp_if, wb, wp_cmp, wp_idx, wp_var, wp_cst, getP_0, getP_s, optP_some, cop_lt, cop_le, cop_gt, cop_ge, cop_eq, cop_ne, isB_bl, wp_asg, wp_bin, wp_blt, wp_rsC, wp_rsN, bi_int, bi_intb, bi_abs, bi_max, bi_min, bi_gcd, bop_add, bop_sub, stl_d, stl_l, tgt_nm, tgt_tp, tgts_nil, tgts_cons, sets_nil, sets_cons, nxt_nx, nxt_rt, nxt_bk, nxt_ct, List.set_cons_succ, List.set_cons_zero, wp_rt, wp_rtN, wp_pass, wp_brk, wp_cont, finR_rt, finR_nx, wp_expr, wp_par, wp_call, wp_esC, wp_esN, wp_esS, wp_tup, wp_lst, wp_neg, isI_int, wp_nt, wp_and, wp_or, wp_ite, wp_isin, wp_chain, isI_ty, isI_tb, isT_tt, wp_comp, wp_turn, wp_itS, wp_itR, wp_itZ, wp_itE, asIt_tup, asIt_l, wipe_nil, wipe_cons, tuple_l, len_tup, TQ_id, wp_for, List.length_set, wp_turnFor, List.map_cons, List.map_nil, List.length_cons, List.length_nil, List.cons_append, List.nil_append, List.replicate, Bool.not_true, Bool.not_false, Bool.and_self, Bool.true_and, Bool.and_true, Bool.false_and, Bool.and_false, decide_true, decide_false]
  refine wp_forSt (fun i e M' => ∃ x, e = [some (dI is), some (.int (gl (is.take i))), x] ∧ M' = M) ⟨_, rfl, rfl⟩ ?_ ?_
  · rintro i d e M' hd ⟨x, rfl, rfl⟩
    rw [List.getElem?_map] at hd
    obtain ⟨j, hj, rfl⟩ := Option.map_eq_some_iff.mp hd
    obtain ⟨hlt, rfl⟩ := List.getElem?_eq_some_iff.mp hj
    simp only [wp_cons, wp_nil, wp_if, wb, wp_cmp, wp_idx, wp_var, wp_cst, getP_0, getP_s, optP_some, cop_lt, cop_le, cop_gt, cop_ge, cop_eq, cop_ne, isB_bl, wp_asg, wp_bin, wp_blt, wp_rsC, wp_rsN, bi_int, bi_intb, bi_abs, bi_max, bi_min, bi_gcd, bop_add, bop_sub, stl_d, stl_l, tgt_nm, tgt_tp, tgts_nil, tgts_cons, sets_nil, sets_cons, nxt_nx, nxt_rt, nxt_bk, nxt_ct, List.set_cons_succ, List.set_cons_zero, wp_rt, wp_rtN, wp_pass, wp_brk, wp_cont, finR_rt, finR_nx, wp_expr, wp_par, wp_call, wp_esC, wp_esN, wp_esS, wp_tup, wp_lst, wp_neg, isI_int, wp_nt, wp_and, wp_or, wp_ite, wp_isin, wp_chain, isI_ty, isI_tb, isT_tt, wp_comp, wp_turn, wp_itS, wp_itR, wp_itZ, wp_itE, asIt_tup, asIt_l, wipe_nil, wipe_cons, tuple_l, len_tup, TQ_id, wp_for, List.length_set, wp_turnFor, List.map_cons, List.map_nil, List.length_cons, List.length_nil, List.cons_append, List.nil_append, List.replicate, Bool.not_true, Bool.not_false, Bool.and_self, Bool.true_and, Bool.and_true, Bool.false_and, Bool.and_false, decide_true, decide_false]
    refine ⟨some (.int is[i]), ?_, trivial⟩
    rw [gl_take is i hlt, Int.natAbs_natCast]
  · rintro e M' ⟨x, rfl, rfl⟩
    rw [List.length_map, List.take_length]
    simp only [wp_cons, wp_nil, wp_if, wb, wp_cmp, wp_idx, wp_var, wp_cst, getP_0, getP_s, optP_some, cop_lt, cop_le, cop_gt, cop_ge, cop_eq, cop_ne, isB_bl, wp_asg, wp_bin, wp_blt, wp_rsC, wp_rsN, bi_int, bi_intb, bi_abs, bi_max, bi_min, bi_gcd, bop_add, bop_sub, stl_d, stl_l, tgt_nm, tgt_tp, tgts_nil, tgts_cons, sets_nil, sets_cons, nxt_nx, nxt_rt, nxt_bk, nxt_ct, List.set_cons_succ, List.set_cons_zero, wp_rt, wp_rtN, wp_pass, wp_brk, wp_cont, finR_rt, finR_nx, wp_expr, wp_par, wp_call, wp_esC, wp_esN, wp_esS, wp_tup, wp_lst, wp_neg, isI_int, wp_nt, wp_and, wp_or, wp_ite, wp_isin, wp_chain, isI_ty, isI_tb, isT_tt, wp_comp, wp_turn, wp_itS, wp_itR, wp_itZ, wp_itE, asIt_tup, asIt_l, wipe_nil, wipe_cons, tuple_l, len_tup, TQ_id, wp_for, List.length_set, wp_turnFor, List.map_cons, List.map_nil, List.length_cons, List.length_nil, List.cons_append, List.nil_append, List.replicate, Bool.not_true, Bool.not_false, Bool.and_self, Bool.true_and, Bool.and_true, Bool.false_and, Bool.and_false, decide_true, decide_false]
    have hg := gl_bn hi
    by_cases h : (1 : Int) < (gl is : Int)
    · rw [decide_eq_true h]
      simp only [wp_cons, wp_nil, wp_if, wb, wp_cmp, wp_idx, wp_var, wp_cst, getP_0, getP_s, optP_some, cop_lt, cop_le, cop_gt, cop_ge, cop_eq, cop_ne, isB_bl, wp_asg, wp_bin, wp_blt, wp_rsC, wp_rsN, bi_int, bi_intb, bi_abs, bi_max, bi_min, bi_gcd, bop_add, bop_sub, stl_d, stl_l, tgt_nm, tgt_tp, tgts_nil, tgts_cons, sets_nil, sets_cons, nxt_nx, nxt_rt, nxt_bk, nxt_ct, List.set_cons_succ, List.set_cons_zero, wp_rt, wp_rtN, wp_pass, wp_brk, wp_cont, finR_rt, finR_nx, wp_expr, wp_par, wp_call, wp_esC, wp_esN, wp_esS, wp_tup, wp_lst, wp_neg, isI_int, wp_nt, wp_and, wp_or, wp_ite, wp_isin, wp_chain, isI_ty, isI_tb, isT_tt, wp_comp, wp_turn, wp_itS, wp_itR, wp_itZ, wp_itE, asIt_tup, asIt_l, wipe_nil, wipe_cons, tuple_l, len_tup, TQ_id, wp_for, List.length_set, wp_turnFor, List.map_cons, List.map_nil, List.length_cons, List.length_nil, List.cons_append, List.nil_append, List.replicate, Bool.not_true, Bool.not_false, Bool.and_self, Bool.true_and, Bool.and_true, Bool.false_and, Bool.and_false, decide_true, decide_false]
      rw [wp_compPure (fun d => match d with | .int x => .int (x / (gl is : Int)) | d => d) (by simp; unfold line; omega) (fun d hd => ?_)]
      · simp only [wp_cons, wp_nil, wp_if, wb, wp_cmp, wp_idx, wp_var, wp_cst, getP_0, getP_s, optP_some, cop_lt, cop_le, cop_gt, cop_ge, cop_eq, cop_ne, isB_bl, wp_asg, wp_bin, wp_blt, wp_rsC, wp_rsN, bi_int, bi_intb, bi_abs, bi_max, bi_min, bi_gcd, bop_add, bop_sub, stl_d, stl_l, tgt_nm, tgt_tp, tgts_nil, tgts_cons, sets_nil, sets_cons, nxt_nx, nxt_rt, nxt_bk, nxt_ct, List.set_cons_succ, List.set_cons_zero, wp_rt, wp_rtN, wp_pass, wp_brk, wp_cont, finR_rt, finR_nx, wp_expr, wp_par, wp_call, wp_esC, wp_esN, wp_esS, wp_tup, wp_lst, wp_neg, isI_int, wp_nt, wp_and, wp_or, wp_ite, wp_isin, wp_chain, isI_ty, isI_tb, isT_tt, wp_comp, wp_turn, wp_itS, wp_itR, wp_itZ, wp_itE, asIt_tup, asIt_l, wipe_nil, wipe_cons, tuple_l, len_tup, TQ_id, wp_for, List.length_set, wp_turnFor, List.map_cons, List.map_nil, List.length_cons, List.length_nil, List.cons_append, List.nil_append, List.replicate, Bool.not_true, Bool.not_false, Bool.and_self, Bool.true_and, Bool.and_true, Bool.false_and, Bool.and_false, decide_true, decide_false]
        refine ⟨?_, trivial⟩
        unfold low
        rw [if_pos (by omega)]
        show Rv.d (.tup _) = Rv.d (.tup _)
        rw [List.map_map, List.map_map]; rfl
      · obtain ⟨j, _, rfl⟩ := List.mem_map.mp hd
        simp only [wp_cons, wp_nil, wp_if, wb, wp_cmp, wp_idx, wp_var, wp_cst, getP_0, getP_s, optP_some, cop_lt, cop_le, cop_gt, cop_ge, cop_eq, cop_ne, isB_bl, wp_asg, wp_bin, wp_blt, wp_rsC, wp_rsN, bi_int, bi_intb, bi_abs, bi_max, bi_min, bi_gcd, bop_add, bop_sub, stl_d, stl_l, tgt_nm, tgt_tp, tgts_nil, tgts_cons, sets_nil, sets_cons, nxt_nx, nxt_rt, nxt_bk, nxt_ct, List.set_cons_succ, List.set_cons_zero, wp_rt, wp_rtN, wp_pass, wp_brk, wp_cont, finR_rt, finR_nx, wp_expr, wp_par, wp_call, wp_esC, wp_esN, wp_esS, wp_tup, wp_lst, wp_neg, isI_int, wp_nt, wp_and, wp_or, wp_ite, wp_isin, wp_chain, isI_ty, isI_tb, isT_tt, wp_comp, wp_turn, wp_itS, wp_itR, wp_itZ, wp_itE, asIt_tup, asIt_l, wipe_nil, wipe_cons, tuple_l, len_tup, TQ_id, wp_for, List.length_set, wp_turnFor, List.map_cons, List.map_nil, List.length_cons, List.length_nil, List.cons_append, List.nil_append, List.replicate, Bool.not_true, Bool.not_false, Bool.and_self, Bool.true_and, Bool.and_true, Bool.false_and, Bool.and_false, decide_true, decide_false]
        rw [bop_div (by omega) hg (by omega)]
        simp only [wp_cons, wp_nil, wp_if, wb, wp_cmp, wp_idx, wp_var, wp_cst, getP_0, getP_s, optP_some, cop_lt, cop_le, cop_gt, cop_ge, cop_eq, cop_ne, isB_bl, wp_asg, wp_bin, wp_blt, wp_rsC, wp_rsN, bi_int, bi_intb, bi_abs, bi_max, bi_min, bi_gcd, bop_add, bop_sub, stl_d, stl_l, tgt_nm, tgt_tp, tgts_nil, tgts_cons, sets_nil, sets_cons, nxt_nx, nxt_rt, nxt_bk, nxt_ct, List.set_cons_succ, List.set_cons_zero, wp_rt, wp_rtN, wp_pass, wp_brk, wp_cont, finR_rt, finR_nx, wp_expr, wp_par, wp_call, wp_esC, wp_esN, wp_esS, wp_tup, wp_lst, wp_neg, isI_int, wp_nt, wp_and, wp_or, wp_ite, wp_isin, wp_chain, isI_ty, isI_tb, isT_tt, wp_comp, wp_turn, wp_itS, wp_itR, wp_itZ, wp_itE, asIt_tup, asIt_l, wipe_nil, wipe_cons, tuple_l, len_tup, TQ_id, wp_for, List.length_set, wp_turnFor, List.map_cons, List.map_nil, List.length_cons, List.length_nil, List.cons_append, List.nil_append, List.replicate, Bool.not_true, Bool.not_false, Bool.and_self, Bool.true_and, Bool.and_true, Bool.false_and, Bool.and_false, decide_true, decide_false]
        exact ⟨trivial, trivial⟩
    · rw [decide_eq_false h]
      simp only [wp_cons, wp_nil, wp_if, wb, wp_cmp, wp_idx, wp_var, wp_cst, getP_0, getP_s, optP_some, cop_lt, cop_le, cop_gt, cop_ge, cop_eq, cop_ne, isB_bl, wp_asg, wp_bin, wp_blt, wp_rsC, wp_rsN, bi_int, bi_intb, bi_abs, bi_max, bi_min, bi_gcd, bop_add, bop_sub, stl_d, stl_l, tgt_nm, tgt_tp, tgts_nil, tgts_cons, sets_nil, sets_cons, nxt_nx, nxt_rt, nxt_bk, nxt_ct, List.set_cons_succ, List.set_cons_zero, wp_rt, wp_rtN, wp_pass, wp_brk, wp_cont, finR_rt, finR_nx, wp_expr, wp_par, wp_call, wp_esC, wp_esN, wp_esS, wp_tup, wp_lst, wp_neg, isI_int, wp_nt, wp_and, wp_or, wp_ite, wp_isin, wp_chain, isI_ty, isI_tb, isT_tt, wp_comp, wp_turn, wp_itS, wp_itR, wp_itZ, wp_itE, asIt_tup, asIt_l, wipe_nil, wipe_cons, tuple_l, len_tup, TQ_id, wp_for, List.length_set, wp_turnFor, List.map_cons, List.map_nil, List.length_cons, List.length_nil, List.cons_append, List.nil_append, List.replicate, Bool.not_true, Bool.not_false, Bool.and_self, Bool.true_and, Bool.and_true, Bool.false_and, Bool.and_false, decide_true, decide_false]
      refine ⟨?_, trivial⟩
      unfold low
      rw [if_neg (by omega)]
theorem s8 {is : List Int} (h1 : 1 ≤ is.length) (h2 : is.length ≤ 15) (hs : is.all shortI = true) : WP (PH (k+5) 8 [dI is]) M R = R (.d .non) M := by
  rw [wp_phi (d := d_require_any_form) rfl rfl]
  unfold d_require_any_form
  simp only [wp_cons, wp_nil, wp_if, wb, wp_cmp, wp_idx, wp_var, wp_cst, getP_0, getP_s, optP_some, cop_lt, cop_le, cop_gt, cop_ge, cop_eq, cop_ne, isB_bl, wp_asg, wp_bin, wp_blt, wp_rsC, wp_rsN, bi_int, bi_intb, bi_abs, bi_max, bi_min, bi_gcd, bop_add, bop_sub, stl_d, stl_l, tgt_nm, tgt_tp, tgts_nil, tgts_cons, sets_nil, sets_cons, nxt_nx, nxt_rt, nxt_bk, nxt_ct, List.set_cons_succ, List.set_cons_zero, wp_rt, wp_rtN, wp_pass, wp_brk, wp_cont, finR_rt, finR_nx, wp_expr, wp_par, wp_call, wp_esC, wp_esN, wp_esS, wp_tup, wp_lst, wp_neg, isI_int, wp_nt, wp_and, wp_or, wp_ite, wp_isin, wp_chain, isI_ty, isI_tb, isT_tt, wp_comp, wp_turn, wp_itS, wp_itR, wp_itZ, wp_itE, asIt_tup, asIt_l, wipe_nil, wipe_cons, tuple_l, len_tup, TQ_id, wp_for, List.length_set, wp_turnFor, List.map_cons, List.map_nil, List.length_cons, List.length_nil, List.cons_append, List.nil_append, List.replicate, Bool.not_true, Bool.not_false, Bool.and_self, Bool.true_and, Bool.and_true, Bool.false_and, Bool.and_false, decide_true, decide_false]
  rw [s3 (by omega)]
  simp only [wp_cons, wp_nil, wp_if, wb, wp_cmp, wp_idx, wp_var, wp_cst, getP_0, getP_s, optP_some, cop_lt, cop_le, cop_gt, cop_ge, cop_eq, cop_ne, isB_bl, wp_asg, wp_bin, wp_blt, wp_rsC, wp_rsN, bi_int, bi_intb, bi_abs, bi_max, bi_min, bi_gcd, bop_add, bop_sub, stl_d, stl_l, tgt_nm, tgt_tp, tgts_nil, tgts_cons, sets_nil, sets_cons, nxt_nx, nxt_rt, nxt_bk, nxt_ct, List.set_cons_succ, List.set_cons_zero, wp_rt, wp_rtN, wp_pass, wp_brk, wp_cont, finR_rt, finR_nx, wp_expr, wp_par, wp_call, wp_esC, wp_esN, wp_esS, wp_tup, wp_lst, wp_neg, isI_int, wp_nt, wp_and, wp_or, wp_ite, wp_isin, wp_chain, isI_ty, isI_tb, isT_tt, wp_comp, wp_turn, wp_itS, wp_itR, wp_itZ, wp_itE, asIt_tup, asIt_l, wipe_nil, wipe_cons, tuple_l, len_tup, TQ_id, wp_for, List.length_set, wp_turnFor, List.map_cons, List.map_nil, List.length_cons, List.length_nil, List.cons_append, List.nil_append, List.replicate, Bool.not_true, Bool.not_false, Bool.and_self, Bool.true_and, Bool.and_true, Bool.false_and, Bool.and_false, decide_true, decide_false]
  rw [hs, decide_eq_true ⟨h1, h2⟩]
  simp only [wp_cons, wp_nil, wp_if, wb, wp_cmp, wp_idx, wp_var, wp_cst, getP_0, getP_s, optP_some, cop_lt, cop_le, cop_gt, cop_ge, cop_eq, cop_ne, isB_bl, wp_asg, wp_bin, wp_blt, wp_rsC, wp_rsN, bi_int, bi_intb, bi_abs, bi_max, bi_min, bi_gcd, bop_add, bop_sub, stl_d, stl_l, tgt_nm, tgt_tp, tgts_nil, tgts_cons, sets_nil, sets_cons, nxt_nx, nxt_rt, nxt_bk, nxt_ct, List.set_cons_succ, List.set_cons_zero, wp_rt, wp_rtN, wp_pass, wp_brk, wp_cont, finR_rt, finR_nx, wp_expr, wp_par, wp_call, wp_esC, wp_esN, wp_esS, wp_tup, wp_lst, wp_neg, isI_int, wp_nt, wp_and, wp_or, wp_ite, wp_isin, wp_chain, isI_ty, isI_tb, isT_tt, wp_comp, wp_turn, wp_itS, wp_itR, wp_itZ, wp_itE, asIt_tup, asIt_l, wipe_nil, wipe_cons, tuple_l, len_tup, TQ_id, wp_for, List.length_set, wp_turnFor, List.map_cons, List.map_nil, List.length_cons, List.length_nil, List.cons_append, List.nil_append, List.replicate, Bool.not_true, Bool.not_false, Bool.and_self, Bool.true_and, Bool.and_true, Bool.false_and, Bool.and_false, decide_true, decide_false]
theorem short_bn {is : List Int} (h : is.all shortI = true) : ∀ i ∈ is, Bn 200 i := fun i hi => by
  have := List.all_eq_true.mp h i hi
  unfold shortI at this
  rw [Bool.and_eq_true, decide_eq_true_eq, decide_eq_true_eq] at this
  refine Bn.of ?_ ?_
  · have : -(2 ^ 200 : Nat) ≤ -S60 := by decide
    omega
  · have : S60 ≤ (2 ^ 200 : Nat) := by decide
    omega
theorem s9 {is : List Int} {j : Int} {js : List Int} {n : Nat} (h1 : 1 ≤ is.length) (h2 : is.length ≤ 15) (hs : is.all shortI = true) (hl : is.length = (j :: js).length) (hj : ∀ x ∈ j :: js, Bn n x) (hn : n < 8000) (h0 : 0 ≤ j) :
    WP (PH (k+6) 9 [dI is, dI (j :: js)]) M R = R (.d (.int (dot is (j :: js)))) M := by
  rw [wp_phi (d := d_value_at) rfl rfl]
  unfold d_value_at
  simp only [wp_cons, wp_nil, wp_if, wb, wp_cmp, wp_idx, wp_var, wp_cst, getP_0, getP_s, optP_some, cop_lt, cop_le, cop_gt, cop_ge, cop_eq, cop_ne, isB_bl, wp_asg, wp_bin, wp_blt, wp_rsC, wp_rsN, bi_int, bi_intb, bi_abs, bi_max, bi_min, bi_gcd, bop_add, bop_sub, stl_d, stl_l, tgt_nm, tgt_tp, tgts_nil, tgts_cons, sets_nil, sets_cons, nxt_nx, nxt_rt, nxt_bk, nxt_ct, List.set_cons_succ, List.set_cons_zero, wp_rt, wp_rtN, wp_pass, wp_brk, wp_cont, finR_rt, finR_nx, wp_expr, wp_par, wp_call, wp_esC, wp_esN, wp_esS, wp_tup, wp_lst, wp_neg, isI_int, wp_nt, wp_and, wp_or, wp_ite, wp_isin, wp_chain, isI_ty, isI_tb, isT_tt, wp_comp, wp_turn, wp_itS, wp_itR, wp_itZ, wp_itE, asIt_tup, asIt_l, wipe_nil, wipe_cons, tuple_l, len_tup, TQ_id, wp_for, List.length_set, wp_turnFor, List.map_cons, List.map_nil, List.length_cons, List.length_nil, List.cons_append, List.nil_append, List.replicate, Bool.not_true, Bool.not_false, Bool.and_self, Bool.true_and, Bool.and_true, Bool.false_and, Bool.and_false, decide_true, decide_false]
  rw [s8 h1 h2 hs]
  simp only [wp_cons, wp_nil, wp_if, wb, wp_cmp, wp_idx, wp_var, wp_cst, getP_0, getP_s, optP_some, cop_lt, cop_le, cop_gt, cop_ge, cop_eq, cop_ne, isB_bl, wp_asg, wp_bin, wp_blt, wp_rsC, wp_rsN, bi_int, bi_intb, bi_abs, bi_max, bi_min, bi_gcd, bop_add, bop_sub, stl_d, stl_l, tgt_nm, tgt_tp, tgts_nil, tgts_cons, sets_nil, sets_cons, nxt_nx, nxt_rt, nxt_bk, nxt_ct, List.set_cons_succ, List.set_cons_zero, wp_rt, wp_rtN, wp_pass, wp_brk, wp_cont, finR_rt, finR_nx, wp_expr, wp_par, wp_call, wp_esC, wp_esN, wp_esS, wp_tup, wp_lst, wp_neg, isI_int, wp_nt, wp_and, wp_or, wp_ite, wp_isin, wp_chain, isI_ty, isI_tb, isT_tt, wp_comp, wp_turn, wp_itS, wp_itR, wp_itZ, wp_itE, asIt_tup, asIt_l, wipe_nil, wipe_cons, tuple_l, len_tup, TQ_id, wp_for, List.length_set, wp_turnFor, List.map_cons, List.map_nil, List.length_cons, List.length_nil, List.cons_append, List.nil_append, List.replicate, Bool.not_true, Bool.not_false, Bool.and_self, Bool.true_and, Bool.and_true, Bool.false_and, Bool.and_false, decide_true, decide_false]
  rw [s4 (by simp at hl; omega) (by rw [List.length_map]; omega), decide_eq_true h0]
  simp only [wp_cons, wp_nil, wp_if, wb, wp_cmp, wp_idx, wp_var, wp_cst, getP_0, getP_s, optP_some, cop_lt, cop_le, cop_gt, cop_ge, cop_eq, cop_ne, isB_bl, wp_asg, wp_bin, wp_blt, wp_rsC, wp_rsN, bi_int, bi_intb, bi_abs, bi_max, bi_min, bi_gcd, bop_add, bop_sub, stl_d, stl_l, tgt_nm, tgt_tp, tgts_nil, tgts_cons, sets_nil, sets_cons, nxt_nx, nxt_rt, nxt_bk, nxt_ct, List.set_cons_succ, List.set_cons_zero, wp_rt, wp_rtN, wp_pass, wp_brk, wp_cont, finR_rt, finR_nx, wp_expr, wp_par, wp_call, wp_esC, wp_esN, wp_esS, wp_tup, wp_lst, wp_neg, isI_int, wp_nt, wp_and, wp_or, wp_ite, wp_isin, wp_chain, isI_ty, isI_tb, isT_tt, wp_comp, wp_turn, wp_itS, wp_itR, wp_itZ, wp_itE, asIt_tup, asIt_l, wipe_nil, wipe_cons, tuple_l, len_tup, TQ_id, wp_for, List.length_set, wp_turnFor, List.map_cons, List.map_nil, List.length_cons, List.length_nil, List.cons_append, List.nil_append, List.replicate, Bool.not_true, Bool.not_false, Bool.and_self, Bool.true_and, Bool.and_true, Bool.false_and, Bool.and_false, decide_true, decide_false]
  rw [s5 (by omega) (short_bn hs) hj (by omega)]
  simp only [wp_cons, wp_nil, wp_if, wb, wp_cmp, wp_idx, wp_var, wp_cst, getP_0, getP_s, optP_some, cop_lt, cop_le, cop_gt, cop_ge, cop_eq, cop_ne, isB_bl, wp_asg, wp_bin, wp_blt, wp_rsC, wp_rsN, bi_int, bi_intb, bi_abs, bi_max, bi_min, bi_gcd, bop_add, bop_sub, stl_d, stl_l, tgt_nm, tgt_tp, tgts_nil, tgts_cons, sets_nil, sets_cons, nxt_nx, nxt_rt, nxt_bk, nxt_ct, List.set_cons_succ, List.set_cons_zero, wp_rt, wp_rtN, wp_pass, wp_brk, wp_cont, finR_rt, finR_nx, wp_expr, wp_par, wp_call, wp_esC, wp_esN, wp_esS, wp_tup, wp_lst, wp_neg, isI_int, wp_nt, wp_and, wp_or, wp_ite, wp_isin, wp_chain, isI_ty, isI_tb, isT_tt, wp_comp, wp_turn, wp_itS, wp_itR, wp_itZ, wp_itE, asIt_tup, asIt_l, wipe_nil, wipe_cons, tuple_l, len_tup, TQ_id, wp_for, List.length_set, wp_turnFor, List.map_cons, List.map_nil, List.length_cons, List.length_nil, List.cons_append, List.nil_append, List.replicate, Bool.not_true, Bool.not_false, Bool.and_self, Bool.true_and, Bool.and_true, Bool.false_and, Bool.and_false, decide_true, decide_false]
theorem s10 {j : Int} {js : List Int} {n : Nat} (h2 : (j :: js).length ≤ 15) (hj : ∀ x ∈ j :: js, Bn n x) (hn : n < 8000) (h0 : 0 ≤ j) :
    WP (PH (k+3) 10 [dI (j :: js)]) M R = R (.d (dI (low (j :: js)))) M := by
  rw [wp_phi (d := d_lowest) rfl rfl]
  unfold d_lowest
  simp only [wp_cons, wp_nil, wp_if, wb, wp_cmp, wp_idx, wp_var, wp_cst, getP_0, getP_s, optP_some, cop_lt, cop_le, cop_gt, cop_ge, cop_eq, cop_ne, isB_bl, wp_asg, wp_bin, wp_blt, wp_rsC, wp_rsN, bi_int, bi_intb, bi_abs, bi_max, bi_min, bi_gcd, bop_add, bop_sub, stl_d, stl_l, tgt_nm, tgt_tp, tgts_nil, tgts_cons, sets_nil, sets_cons, nxt_nx, nxt_rt, nxt_bk, nxt_ct, List.set_cons_succ, List.set_cons_zero, wp_rt, wp_rtN, wp_pass, wp_brk, wp_cont, finR_rt, finR_nx, wp_expr, wp_par, wp_call, wp_esC, wp_esN, wp_esS, wp_tup, wp_lst, wp_neg, isI_int, wp_nt, wp_and, wp_or, wp_ite, wp_isin, wp_chain, isI_ty, isI_tb, isT_tt, wp_comp, wp_turn, wp_itS, wp_itR, wp_itZ, wp_itE, asIt_tup, asIt_l, wipe_nil, wipe_cons, tuple_l, len_tup, TQ_id, wp_for, List.length_set, wp_turnFor, List.map_cons, List.map_nil, List.length_cons, List.length_nil, List.cons_append, List.nil_append, List.replicate, Bool.not_true, Bool.not_false, Bool.and_self, Bool.true_and, Bool.and_true, Bool.false_and, Bool.and_false, decide_true, decide_false]
  rw [List.length_map]
  simp only [List.length_cons] at h2
  have e1 : (1 : Int) ≤ ((js.length + 1 : Nat) : Int) := by omega
  have e2 : ((js.length + 1 : Nat) : Int) ≤ 14 + 1 := by omega
  rw [decide_eq_true e1]
  simp only [wp_cons, wp_nil, wp_if, wb, wp_cmp, wp_idx, wp_var, wp_cst, getP_0, getP_s, optP_some, cop_lt, cop_le, cop_gt, cop_ge, cop_eq, cop_ne, isB_bl, wp_asg, wp_bin, wp_blt, wp_rsC, wp_rsN, bi_int, bi_intb, bi_abs, bi_max, bi_min, bi_gcd, bop_add, bop_sub, stl_d, stl_l, tgt_nm, tgt_tp, tgts_nil, tgts_cons, sets_nil, sets_cons, nxt_nx, nxt_rt, nxt_bk, nxt_ct, List.set_cons_succ, List.set_cons_zero, wp_rt, wp_rtN, wp_pass, wp_brk, wp_cont, finR_rt, finR_nx, wp_expr, wp_par, wp_call, wp_esC, wp_esN, wp_esS, wp_tup, wp_lst, wp_neg, isI_int, wp_nt, wp_and, wp_or, wp_ite, wp_isin, wp_chain, isI_ty, isI_tb, isT_tt, wp_comp, wp_turn, wp_itS, wp_itR, wp_itZ, wp_itE, asIt_tup, asIt_l, wipe_nil, wipe_cons, tuple_l, len_tup, TQ_id, wp_for, List.length_set, wp_turnFor, List.map_cons, List.map_nil, List.length_cons, List.length_nil, List.cons_append, List.nil_append, List.replicate, Bool.not_true, Bool.not_false, Bool.and_self, Bool.true_and, Bool.and_true, Bool.false_and, Bool.and_false, decide_true, decide_false]
  rw [decide_eq_true e2]
  simp only [wp_cons, wp_nil, wp_if, wb, wp_cmp, wp_idx, wp_var, wp_cst, getP_0, getP_s, optP_some, cop_lt, cop_le, cop_gt, cop_ge, cop_eq, cop_ne, isB_bl, wp_asg, wp_bin, wp_blt, wp_rsC, wp_rsN, bi_int, bi_intb, bi_abs, bi_max, bi_min, bi_gcd, bop_add, bop_sub, stl_d, stl_l, tgt_nm, tgt_tp, tgts_nil, tgts_cons, sets_nil, sets_cons, nxt_nx, nxt_rt, nxt_bk, nxt_ct, List.set_cons_succ, List.set_cons_zero, wp_rt, wp_rtN, wp_pass, wp_brk, wp_cont, finR_rt, finR_nx, wp_expr, wp_par, wp_call, wp_esC, wp_esN, wp_esS, wp_tup, wp_lst, wp_neg, isI_int, wp_nt, wp_and, wp_or, wp_ite, wp_isin, wp_chain, isI_ty, isI_tb, isT_tt, wp_comp, wp_turn, wp_itS, wp_itR, wp_itZ, wp_itE, asIt_tup, asIt_l, wipe_nil, wipe_cons, tuple_l, len_tup, TQ_id, wp_for, List.length_set, wp_turnFor, List.map_cons, List.map_nil, List.length_cons, List.length_nil, List.cons_append, List.nil_append, List.replicate, Bool.not_true, Bool.not_false, Bool.and_self, Bool.true_and, Bool.and_true, Bool.false_and, Bool.and_false, decide_true, decide_false]
  rw [s4 (by omega) (by rw [List.length_cons]; omega), decide_eq_true h0]
  simp only [wp_cons, wp_nil, wp_if, wb, wp_cmp, wp_idx, wp_var, wp_cst, getP_0, getP_s, optP_some, cop_lt, cop_le, cop_gt, cop_ge, cop_eq, cop_ne, isB_bl, wp_asg, wp_bin, wp_blt, wp_rsC, wp_rsN, bi_int, bi_intb, bi_abs, bi_max, bi_min, bi_gcd, bop_add, bop_sub, stl_d, stl_l, tgt_nm, tgt_tp, tgts_nil, tgts_cons, sets_nil, sets_cons, nxt_nx, nxt_rt, nxt_bk, nxt_ct, List.set_cons_succ, List.set_cons_zero, wp_rt, wp_rtN, wp_pass, wp_brk, wp_cont, finR_rt, finR_nx, wp_expr, wp_par, wp_call, wp_esC, wp_esN, wp_esS, wp_tup, wp_lst, wp_neg, isI_int, wp_nt, wp_and, wp_or, wp_ite, wp_isin, wp_chain, isI_ty, isI_tb, isT_tt, wp_comp, wp_turn, wp_itS, wp_itR, wp_itZ, wp_itE, asIt_tup, asIt_l, wipe_nil, wipe_cons, tuple_l, len_tup, TQ_id, wp_for, List.length_set, wp_turnFor, List.map_cons, List.map_nil, List.length_cons, List.length_nil, List.cons_append, List.nil_append, List.replicate, Bool.not_true, Bool.not_false, Bool.and_self, Bool.true_and, Bool.and_true, Bool.false_and, Bool.and_false, decide_true, decide_false]
  rw [s7 (by simp; omega) hn hj]
  simp only [wp_cons, wp_nil, wp_if, wb, wp_cmp, wp_idx, wp_var, wp_cst, getP_0, getP_s, optP_some, cop_lt, cop_le, cop_gt, cop_ge, cop_eq, cop_ne, isB_bl, wp_asg, wp_bin, wp_blt, wp_rsC, wp_rsN, bi_int, bi_intb, bi_abs, bi_max, bi_min, bi_gcd, bop_add, bop_sub, stl_d, stl_l, tgt_nm, tgt_tp, tgts_nil, tgts_cons, sets_nil, sets_cons, nxt_nx, nxt_rt, nxt_bk, nxt_ct, List.set_cons_succ, List.set_cons_zero, wp_rt, wp_rtN, wp_pass, wp_brk, wp_cont, finR_rt, finR_nx, wp_expr, wp_par, wp_call, wp_esC, wp_esN, wp_esS, wp_tup, wp_lst, wp_neg, isI_int, wp_nt, wp_and, wp_or, wp_ite, wp_isin, wp_chain, isI_ty, isI_tb, isT_tt, wp_comp, wp_turn, wp_itS, wp_itR, wp_itZ, wp_itE, asIt_tup, asIt_l, wipe_nil, wipe_cons, tuple_l, len_tup, TQ_id, wp_for, List.length_set, wp_turnFor, List.map_cons, List.map_nil, List.length_cons, List.length_nil, List.cons_append, List.nil_append, List.replicate, Bool.not_true, Bool.not_false, Bool.and_self, Bool.true_and, Bool.and_true, Bool.false_and, Bool.and_false, decide_true, decide_false]
theorem s11 {i : Int} {is : List Int} (h2 : (i :: is).length ≤ 15) (hs : (i :: is).all shortI = true) : WP (PH (k+6) 11 [dI (i :: is)]) M R = R (.d (dI (opp (i :: is)))) M := by
  rw [wp_phi (d := d_opposite) rfl rfl]
  unfold d_opposite
  simp only [wp_cons, wp_nil, wp_if, wb, wp_cmp, wp_idx, wp_var, wp_cst, getP_0, getP_s, optP_some, cop_lt, cop_le, cop_gt, cop_ge, cop_eq, cop_ne, isB_bl, wp_asg, wp_bin, wp_blt, wp_rsC, wp_rsN, bi_int, bi_intb, bi_abs, bi_max, bi_min, bi_gcd, bop_add, bop_sub, stl_d, stl_l, tgt_nm, tgt_tp, tgts_nil, tgts_cons, sets_nil, sets_cons, nxt_nx, nxt_rt, nxt_bk, nxt_ct, List.set_cons_succ, List.set_cons_zero, wp_rt, wp_rtN, wp_pass, wp_brk, wp_cont, finR_rt, finR_nx, wp_expr, wp_par, wp_call, wp_esC, wp_esN, wp_esS, wp_tup, wp_lst, wp_neg, isI_int, wp_nt, wp_and, wp_or, wp_ite, wp_isin, wp_chain, isI_ty, isI_tb, isT_tt, wp_comp, wp_turn, wp_itS, wp_itR, wp_itZ, wp_itE, asIt_tup, asIt_l, wipe_nil, wipe_cons, tuple_l, len_tup, TQ_id, wp_for, List.length_set, wp_turnFor, List.map_cons, List.map_nil, List.length_cons, List.length_nil, List.cons_append, List.nil_append, List.replicate, Bool.not_true, Bool.not_false, Bool.and_self, Bool.true_and, Bool.and_true, Bool.false_and, Bool.and_false, decide_true, decide_false]
  rw [s8 (by simp) h2 hs]
  simp only [wp_cons, wp_nil, wp_if, wb, wp_cmp, wp_idx, wp_var, wp_cst, getP_0, getP_s, optP_some, cop_lt, cop_le, cop_gt, cop_ge, cop_eq, cop_ne, isB_bl, wp_asg, wp_bin, wp_blt, wp_rsC, wp_rsN, bi_int, bi_intb, bi_abs, bi_max, bi_min, bi_gcd, bop_add, bop_sub, stl_d, stl_l, tgt_nm, tgt_tp, tgts_nil, tgts_cons, sets_nil, sets_cons, nxt_nx, nxt_rt, nxt_bk, nxt_ct, List.set_cons_succ, List.set_cons_zero, wp_rt, wp_rtN, wp_pass, wp_brk, wp_cont, finR_rt, finR_nx, wp_expr, wp_par, wp_call, wp_esC, wp_esN, wp_esS, wp_tup, wp_lst, wp_neg, isI_int, wp_nt, wp_and, wp_or, wp_ite, wp_isin, wp_chain, isI_ty, isI_tb, isT_tt, wp_comp, wp_turn, wp_itS, wp_itR, wp_itZ, wp_itE, asIt_tup, asIt_l, wipe_nil, wipe_cons, tuple_l, len_tup, TQ_id, wp_for, List.length_set, wp_turnFor, List.map_cons, List.map_nil, List.length_cons, List.length_nil, List.cons_append, List.nil_append, List.replicate, Bool.not_true, Bool.not_false, Bool.and_self, Bool.true_and, Bool.and_true, Bool.false_and, Bool.and_false, decide_true, decide_false]
  rw [s6 (by simp at h2; omega)]
  simp only [wp_cons, wp_nil, wp_if, wb, wp_cmp, wp_idx, wp_var, wp_cst, getP_0, getP_s, optP_some, cop_lt, cop_le, cop_gt, cop_ge, cop_eq, cop_ne, isB_bl, wp_asg, wp_bin, wp_blt, wp_rsC, wp_rsN, bi_int, bi_intb, bi_abs, bi_max, bi_min, bi_gcd, bop_add, bop_sub, stl_d, stl_l, tgt_nm, tgt_tp, tgts_nil, tgts_cons, sets_nil, sets_cons, nxt_nx, nxt_rt, nxt_bk, nxt_ct, List.set_cons_succ, List.set_cons_zero, wp_rt, wp_rtN, wp_pass, wp_brk, wp_cont, finR_rt, finR_nx, wp_expr, wp_par, wp_call, wp_esC, wp_esN, wp_esS, wp_tup, wp_lst, wp_neg, isI_int, wp_nt, wp_and, wp_or, wp_ite, wp_isin, wp_chain, isI_ty, isI_tb, isT_tt, wp_comp, wp_turn, wp_itS, wp_itR, wp_itZ, wp_itE, asIt_tup, asIt_l, wipe_nil, wipe_cons, tuple_l, len_tup, TQ_id, wp_for, List.length_set, wp_turnFor, List.map_cons, List.map_nil, List.length_cons, List.length_nil, List.cons_append, List.nil_append, List.replicate, Bool.not_true, Bool.not_false, Bool.and_self, Bool.true_and, Bool.and_true, Bool.false_and, Bool.and_false, decide_true, decide_false]
/-! the law's own functions -/
theorem s12 {ns : List Int} {j : Nat} (hl : ns.length ≤ 63) (hj : j ≤ 100) (q : ∀ s : Sp, SpOk 0 s → R (.l [.int s.1, .int s.2.1, .int s.2.2]) M) : WP (PH (k+1) 12 [.rl (ns.map D.int), .int (j : Nat)]) M R := by
  rw [wp_phi (d := d__law_spins) rfl rfl]
  unfold d__law_spins
  simp only [wp_cons, wp_nil, wp_if, wb, wp_cmp, wp_idx, wp_var, wp_cst, getP_0, getP_s, optP_some, cop_lt, cop_le, cop_gt, cop_ge, cop_eq, cop_ne, isB_bl, wp_asg, wp_bin, wp_blt, wp_rsC, wp_rsN, bi_int, bi_intb, bi_abs, bi_max, bi_min, bi_gcd, bop_add, bop_sub, stl_d, stl_l, tgt_nm, tgt_tp, tgts_nil, tgts_cons, sets_nil, sets_cons, nxt_nx, nxt_rt, nxt_bk, nxt_ct, List.set_cons_succ, List.set_cons_zero, wp_rt, wp_rtN, wp_pass, wp_brk, wp_cont, finR_rt, finR_nx, wp_expr, wp_par, wp_call, wp_esC, wp_esN, wp_esS, wp_tup, wp_lst, wp_neg, isI_int, wp_nt, wp_and, wp_or, wp_ite, wp_isin, wp_chain, isI_ty, isI_tb, isT_tt, wp_comp, wp_turn, wp_itS, wp_itR, wp_itZ, wp_itE, asIt_tup, asIt_l, wipe_nil, wipe_cons, tuple_l, len_tup, TQ_id, wp_for, List.length_set, wp_turnFor, List.map_cons, List.map_nil, List.length_cons, List.length_nil, List.cons_append, List.nil_append, List.replicate, Bool.not_true, Bool.not_false, Bool.and_self, Bool.true_and, Bool.and_true, Bool.false_and, Bool.and_false, decide_true, decide_false]
  have e1 : ∀ N : Ar, builtin .len [.d (.rl (ns.map D.int))] N = some (.d (.int (ns.length : Nat))) := fun N => by
    show some (Rv.d (.int ((ns.map D.int).length : Nat))) = _
    rw [List.length_map]
  rw [e1]
  simp only [wp_cons, wp_nil, wp_if, wb, wp_cmp, wp_idx, wp_var, wp_cst, getP_0, getP_s, optP_some, cop_lt, cop_le, cop_gt, cop_ge, cop_eq, cop_ne, isB_bl, wp_asg, wp_bin, wp_blt, wp_rsC, wp_rsN, bi_int, bi_intb, bi_abs, bi_max, bi_min, bi_gcd, bop_add, bop_sub, stl_d, stl_l, tgt_nm, tgt_tp, tgts_nil, tgts_cons, sets_nil, sets_cons, nxt_nx, nxt_rt, nxt_bk, nxt_ct, List.set_cons_succ, List.set_cons_zero, wp_rt, wp_rtN, wp_pass, wp_brk, wp_cont, finR_rt, finR_nx, wp_expr, wp_par, wp_call, wp_esC, wp_esN, wp_esS, wp_tup, wp_lst, wp_neg, isI_int, wp_nt, wp_and, wp_or, wp_ite, wp_isin, wp_chain, isI_ty, isI_tb, isT_tt, wp_comp, wp_turn, wp_itS, wp_itR, wp_itZ, wp_itE, asIt_tup, asIt_l, wipe_nil, wipe_cons, tuple_l, len_tup, TQ_id, wp_for, List.length_set, wp_turnFor, List.map_cons, List.map_nil, List.length_cons, List.length_nil, List.cons_append, List.nil_append, List.replicate, Bool.not_true, Bool.not_false, Bool.and_self, Bool.true_and, Bool.and_true, Bool.false_and, Bool.and_false, decide_true, decide_false]
  have main : ∀ c : Int, stl (.d (.int c)) M (fun d M2 => WP (execs (PH k) fuel (.cons (.asg (.nm 3) (.bin .mod (.blt .int (.cons (.blt .abs (.cons (.var 2) .nil)) .nil)) (.bin .pow (.bin .pow (.cst (.int 10)) (.cst (.int 51))) (.cst (.int 6))))) (.cons (.ret (.lst (.cons (.blt .max (.cons (.cst (.int 0)) (.cons (.bin .sub (.var 3) (.bin .pow (.cst (.int 10)) (.cst (.int 16)))) .nil))) (.cons (.bin .add (.bin .add (.bin .add (.bin .mul (.bin .mod (.blt .int (.cons (.var 3) .nil)) (.cst (.int 2305843009213693907))) (.cst (.int 67))) (.bin .mul (.cst (.int 941)) (.var 1))) (.bin .mul (.cst (.int 43)) (.blt .int (.cons (.cmp .lt (.var 2) (.cst (.int 0))) .nil)))) (.cst (.int 17))) (.cons (.cst (.int 0)) .nil))))) .nil)) [some (.rl (ns.map D.int)), some (.int (j : Nat)), some d, none]) M2 (fun fl M1 => finR fl M1 R)) := by
    intro c
    simp only [wp_cons, wp_nil, wp_if, wb, wp_cmp, wp_idx, wp_var, wp_cst, getP_0, getP_s, optP_some, cop_lt, cop_le, cop_gt, cop_ge, cop_eq, cop_ne, isB_bl, wp_asg, wp_bin, wp_blt, wp_rsC, wp_rsN, bi_int, bi_intb, bi_abs, bi_max, bi_min, bi_gcd, bop_add, bop_sub, stl_d, stl_l, tgt_nm, tgt_tp, tgts_nil, tgts_cons, sets_nil, sets_cons, nxt_nx, nxt_rt, nxt_bk, nxt_ct, List.set_cons_succ, List.set_cons_zero, wp_rt, wp_rtN, wp_pass, wp_brk, wp_cont, finR_rt, finR_nx, wp_expr, wp_par, wp_call, wp_esC, wp_esN, wp_esS, wp_tup, wp_lst, wp_neg, isI_int, wp_nt, wp_and, wp_or, wp_ite, wp_isin, wp_chain, isI_ty, isI_tb, isT_tt, wp_comp, wp_turn, wp_itS, wp_itR, wp_itZ, wp_itE, asIt_tup, asIt_l, wipe_nil, wipe_cons, tuple_l, len_tup, TQ_id, wp_for, List.length_set, wp_turnFor, List.map_cons, List.map_nil, List.length_cons, List.length_nil, List.cons_append, List.nil_append, List.replicate, Bool.not_true, Bool.not_false, Bool.and_self, Bool.true_and, Bool.and_true, Bool.false_and, Bool.and_false, decide_true, decide_false]
    rw [bop_pow (by decide +kernel), show (10 : Int) ^ (51 : Int).toNat = 10 ^ 51 from rfl]
    simp only [wp_cons, wp_nil, wp_if, wb, wp_cmp, wp_idx, wp_var, wp_cst, getP_0, getP_s, optP_some, cop_lt, cop_le, cop_gt, cop_ge, cop_eq, cop_ne, isB_bl, wp_asg, wp_bin, wp_blt, wp_rsC, wp_rsN, bi_int, bi_intb, bi_abs, bi_max, bi_min, bi_gcd, bop_add, bop_sub, stl_d, stl_l, tgt_nm, tgt_tp, tgts_nil, tgts_cons, sets_nil, sets_cons, nxt_nx, nxt_rt, nxt_bk, nxt_ct, List.set_cons_succ, List.set_cons_zero, wp_rt, wp_rtN, wp_pass, wp_brk, wp_cont, finR_rt, finR_nx, wp_expr, wp_par, wp_call, wp_esC, wp_esN, wp_esS, wp_tup, wp_lst, wp_neg, isI_int, wp_nt, wp_and, wp_or, wp_ite, wp_isin, wp_chain, isI_ty, isI_tb, isT_tt, wp_comp, wp_turn, wp_itS, wp_itR, wp_itZ, wp_itE, asIt_tup, asIt_l, wipe_nil, wipe_cons, tuple_l, len_tup, TQ_id, wp_for, List.length_set, wp_turnFor, List.map_cons, List.map_nil, List.length_cons, List.length_nil, List.cons_append, List.nil_append, List.replicate, Bool.not_true, Bool.not_false, Bool.and_self, Bool.true_and, Bool.and_true, Bool.false_and, Bool.and_false, decide_true, decide_false]
    rw [bop_pow (by decide +kernel), show ((10 : Int) ^ 51) ^ (6 : Int).toNat = (10 ^ 51) ^ 6 from rfl]
    simp only [wp_cons, wp_nil, wp_if, wb, wp_cmp, wp_idx, wp_var, wp_cst, getP_0, getP_s, optP_some, cop_lt, cop_le, cop_gt, cop_ge, cop_eq, cop_ne, isB_bl, wp_asg, wp_bin, wp_blt, wp_rsC, wp_rsN, bi_int, bi_intb, bi_abs, bi_max, bi_min, bi_gcd, bop_add, bop_sub, stl_d, stl_l, tgt_nm, tgt_tp, tgts_nil, tgts_cons, sets_nil, sets_cons, nxt_nx, nxt_rt, nxt_bk, nxt_ct, List.set_cons_succ, List.set_cons_zero, wp_rt, wp_rtN, wp_pass, wp_brk, wp_cont, finR_rt, finR_nx, wp_expr, wp_par, wp_call, wp_esC, wp_esN, wp_esS, wp_tup, wp_lst, wp_neg, isI_int, wp_nt, wp_and, wp_or, wp_ite, wp_isin, wp_chain, isI_ty, isI_tb, isT_tt, wp_comp, wp_turn, wp_itS, wp_itR, wp_itZ, wp_itE, asIt_tup, asIt_l, wipe_nil, wipe_cons, tuple_l, len_tup, TQ_id, wp_for, List.length_set, wp_turnFor, List.map_cons, List.map_nil, List.length_cons, List.length_nil, List.cons_append, List.nil_append, List.replicate, Bool.not_true, Bool.not_false, Bool.and_self, Bool.true_and, Bool.and_true, Bool.false_and, Bool.and_false, decide_true, decide_false]
    rw [bop_modP (by decide +kernel)]
    simp only [wp_cons, wp_nil, wp_if, wb, wp_cmp, wp_idx, wp_var, wp_cst, getP_0, getP_s, optP_some, cop_lt, cop_le, cop_gt, cop_ge, cop_eq, cop_ne, isB_bl, wp_asg, wp_bin, wp_blt, wp_rsC, wp_rsN, bi_int, bi_intb, bi_abs, bi_max, bi_min, bi_gcd, bop_add, bop_sub, stl_d, stl_l, tgt_nm, tgt_tp, tgts_nil, tgts_cons, sets_nil, sets_cons, nxt_nx, nxt_rt, nxt_bk, nxt_ct, List.set_cons_succ, List.set_cons_zero, wp_rt, wp_rtN, wp_pass, wp_brk, wp_cont, finR_rt, finR_nx, wp_expr, wp_par, wp_call, wp_esC, wp_esN, wp_esS, wp_tup, wp_lst, wp_neg, isI_int, wp_nt, wp_and, wp_or, wp_ite, wp_isin, wp_chain, isI_ty, isI_tb, isT_tt, wp_comp, wp_turn, wp_itS, wp_itR, wp_itZ, wp_itE, asIt_tup, asIt_l, wipe_nil, wipe_cons, tuple_l, len_tup, TQ_id, wp_for, List.length_set, wp_turnFor, List.map_cons, List.map_nil, List.length_cons, List.length_nil, List.cons_append, List.nil_append, List.replicate, Bool.not_true, Bool.not_false, Bool.and_self, Bool.true_and, Bool.and_true, Bool.false_and, Bool.and_false, decide_true, decide_false]
    generalize hg : (if c < 0 then -c else c) % (10 ^ 51) ^ 6 = g
    have hg0 : 0 ≤ g := by rw [← hg]; exact Int.emod_nonneg _ (by decide +kernel)
    have hg1 : Bn 1090 g := Bn.lt hg0 (by rw [← hg]; exact Int.emod_lt_of_pos _ (by decide +kernel)) (by decide +kernel)
    rw [bop_pow (by decide +kernel), show (10 : Int) ^ (16 : Int).toNat = 10 ^ 16 from rfl]
    simp only [wp_cons, wp_nil, wp_if, wb, wp_cmp, wp_idx, wp_var, wp_cst, getP_0, getP_s, optP_some, cop_lt, cop_le, cop_gt, cop_ge, cop_eq, cop_ne, isB_bl, wp_asg, wp_bin, wp_blt, wp_rsC, wp_rsN, bi_int, bi_intb, bi_abs, bi_max, bi_min, bi_gcd, bop_add, bop_sub, stl_d, stl_l, tgt_nm, tgt_tp, tgts_nil, tgts_cons, sets_nil, sets_cons, nxt_nx, nxt_rt, nxt_bk, nxt_ct, List.set_cons_succ, List.set_cons_zero, wp_rt, wp_rtN, wp_pass, wp_brk, wp_cont, finR_rt, finR_nx, wp_expr, wp_par, wp_call, wp_esC, wp_esN, wp_esS, wp_tup, wp_lst, wp_neg, isI_int, wp_nt, wp_and, wp_or, wp_ite, wp_isin, wp_chain, isI_ty, isI_tb, isT_tt, wp_comp, wp_turn, wp_itS, wp_itR, wp_itZ, wp_itE, asIt_tup, asIt_l, wipe_nil, wipe_cons, tuple_l, len_tup, TQ_id, wp_for, List.length_set, wp_turnFor, List.map_cons, List.map_nil, List.length_cons, List.length_nil, List.cons_append, List.nil_append, List.replicate, Bool.not_true, Bool.not_false, Bool.and_self, Bool.true_and, Bool.and_true, Bool.false_and, Bool.and_false, decide_true, decide_false]
    rw [bop_modP (by decide)]
    generalize hw : g % 2305843009213693907 = w
    have hw0 : 0 ≤ w := by rw [← hw]; exact Int.emod_nonneg _ (by decide)
    have hw1 : w < 2305843009213693907 := by rw [← hw]; exact Int.emod_lt_of_pos _ (by decide)
    simp only [wp_cons, wp_nil, wp_if, wb, wp_cmp, wp_idx, wp_var, wp_cst, getP_0, getP_s, optP_some, cop_lt, cop_le, cop_gt, cop_ge, cop_eq, cop_ne, isB_bl, wp_asg, wp_bin, wp_blt, wp_rsC, wp_rsN, bi_int, bi_intb, bi_abs, bi_max, bi_min, bi_gcd, bop_add, bop_sub, stl_d, stl_l, tgt_nm, tgt_tp, tgts_nil, tgts_cons, sets_nil, sets_cons, nxt_nx, nxt_rt, nxt_bk, nxt_ct, List.set_cons_succ, List.set_cons_zero, wp_rt, wp_rtN, wp_pass, wp_brk, wp_cont, finR_rt, finR_nx, wp_expr, wp_par, wp_call, wp_esC, wp_esN, wp_esS, wp_tup, wp_lst, wp_neg, isI_int, wp_nt, wp_and, wp_or, wp_ite, wp_isin, wp_chain, isI_ty, isI_tb, isT_tt, wp_comp, wp_turn, wp_itS, wp_itR, wp_itZ, wp_itE, asIt_tup, asIt_l, wipe_nil, wipe_cons, tuple_l, len_tup, TQ_id, wp_for, List.length_set, wp_turnFor, List.map_cons, List.map_nil, List.length_cons, List.length_nil, List.cons_append, List.nil_append, List.replicate, Bool.not_true, Bool.not_false, Bool.and_self, Bool.true_and, Bool.and_true, Bool.false_and, Bool.and_false, decide_true, decide_false]
    rw [bop_mul (mulOk_of (Bn.lt (n := 70) hw0 hw1 (by decide)) (n := 30) (by unfold Bn; decide) (by decide))]
    simp only [wp_cons, wp_nil, wp_if, wb, wp_cmp, wp_idx, wp_var, wp_cst, getP_0, getP_s, optP_some, cop_lt, cop_le, cop_gt, cop_ge, cop_eq, cop_ne, isB_bl, wp_asg, wp_bin, wp_blt, wp_rsC, wp_rsN, bi_int, bi_intb, bi_abs, bi_max, bi_min, bi_gcd, bop_add, bop_sub, stl_d, stl_l, tgt_nm, tgt_tp, tgts_nil, tgts_cons, sets_nil, sets_cons, nxt_nx, nxt_rt, nxt_bk, nxt_ct, List.set_cons_succ, List.set_cons_zero, wp_rt, wp_rtN, wp_pass, wp_brk, wp_cont, finR_rt, finR_nx, wp_expr, wp_par, wp_call, wp_esC, wp_esN, wp_esS, wp_tup, wp_lst, wp_neg, isI_int, wp_nt, wp_and, wp_or, wp_ite, wp_isin, wp_chain, isI_ty, isI_tb, isT_tt, wp_comp, wp_turn, wp_itS, wp_itR, wp_itZ, wp_itE, asIt_tup, asIt_l, wipe_nil, wipe_cons, tuple_l, len_tup, TQ_id, wp_for, List.length_set, wp_turnFor, List.map_cons, List.map_nil, List.length_cons, List.length_nil, List.cons_append, List.nil_append, List.replicate, Bool.not_true, Bool.not_false, Bool.and_self, Bool.true_and, Bool.and_true, Bool.false_and, Bool.and_false, decide_true, decide_false]
    rw [bop_mul (mulOk_of (m := 30) (by unfold Bn; decide) (n := 30) (Bn.lt (b := 200) (by omega) (by omega) (by decide)) (by decide))]
    simp only [wp_cons, wp_nil, wp_if, wb, wp_cmp, wp_idx, wp_var, wp_cst, getP_0, getP_s, optP_some, cop_lt, cop_le, cop_gt, cop_ge, cop_eq, cop_ne, isB_bl, wp_asg, wp_bin, wp_blt, wp_rsC, wp_rsN, bi_int, bi_intb, bi_abs, bi_max, bi_min, bi_gcd, bop_add, bop_sub, stl_d, stl_l, tgt_nm, tgt_tp, tgts_nil, tgts_cons, sets_nil, sets_cons, nxt_nx, nxt_rt, nxt_bk, nxt_ct, List.set_cons_succ, List.set_cons_zero, wp_rt, wp_rtN, wp_pass, wp_brk, wp_cont, finR_rt, finR_nx, wp_expr, wp_par, wp_call, wp_esC, wp_esN, wp_esS, wp_tup, wp_lst, wp_neg, isI_int, wp_nt, wp_and, wp_or, wp_ite, wp_isin, wp_chain, isI_ty, isI_tb, isT_tt, wp_comp, wp_turn, wp_itS, wp_itR, wp_itZ, wp_itE, asIt_tup, asIt_l, wipe_nil, wipe_cons, tuple_l, len_tup, TQ_id, wp_for, List.length_set, wp_turnFor, List.map_cons, List.map_nil, List.length_cons, List.length_nil, List.cons_append, List.nil_append, List.replicate, Bool.not_true, Bool.not_false, Bool.and_self, Bool.true_and, Bool.and_true, Bool.false_and, Bool.and_false, decide_true, decide_false]
    have hb : 0 ≤ b2i (decide (c < 0)) ∧ b2i (decide (c < 0)) ≤ 1 := by cases decide (c < 0) <;> decide
    generalize b2i (decide (c < 0)) = bb at hb
    rw [bop_mul (mulOk_of (m := 30) (by unfold Bn; decide) (n := 30) (Bn.lt (b := 200) (by omega) (by omega) (by decide)) (by decide))]
    simp only [wp_cons, wp_nil, wp_if, wb, wp_cmp, wp_idx, wp_var, wp_cst, getP_0, getP_s, optP_some, cop_lt, cop_le, cop_gt, cop_ge, cop_eq, cop_ne, isB_bl, wp_asg, wp_bin, wp_blt, wp_rsC, wp_rsN, bi_int, bi_intb, bi_abs, bi_max, bi_min, bi_gcd, bop_add, bop_sub, stl_d, stl_l, tgt_nm, tgt_tp, tgts_nil, tgts_cons, sets_nil, sets_cons, nxt_nx, nxt_rt, nxt_bk, nxt_ct, List.set_cons_succ, List.set_cons_zero, wp_rt, wp_rtN, wp_pass, wp_brk, wp_cont, finR_rt, finR_nx, wp_expr, wp_par, wp_call, wp_esC, wp_esN, wp_esS, wp_tup, wp_lst, wp_neg, isI_int, wp_nt, wp_and, wp_or, wp_ite, wp_isin, wp_chain, isI_ty, isI_tb, isT_tt, wp_comp, wp_turn, wp_itS, wp_itR, wp_itZ, wp_itE, asIt_tup, asIt_l, wipe_nil, wipe_cons, tuple_l, len_tup, TQ_id, wp_for, List.length_set, wp_turnFor, List.map_cons, List.map_nil, List.length_cons, List.length_nil, List.cons_append, List.nil_append, List.replicate, Bool.not_true, Bool.not_false, Bool.and_self, Bool.true_and, Bool.and_true, Bool.false_and, Bool.and_false, decide_true, decide_false]
    refine ⟨by decide, ?_⟩
    refine q ((if g - 10 ^ 16 > 0 then g - 10 ^ 16 else 0), (w * 67 + 941 * (j : Nat) + 43 * bb + 17), 0) ⟨?_, ?_, ?_, ?_, ?_, ?_⟩
    · show 0 ≤ if g - 10 ^ 16 > 0 then g - 10 ^ 16 else 0
      split <;> omega
    · show Bn 1100 (if g - 10 ^ 16 > 0 then g - 10 ^ 16 else 0)
      split
      · exact (hg1.sub (j := 10 ^ 16) (Bn.mono (m := 60) (by unfold Bn; decide +kernel) (by decide))).mono (by decide)
      · exact Bn.lt (b := 1) (by decide) (by decide) (by decide +kernel)
    · show 0 ≤ w * 67 + 941 * (j : Nat) + 43 * bb + 17
      omega
    · show Bn 90 (w * 67 + 941 * (j : Nat) + 43 * bb + 17)
      exact Bn.lt (b := 2 ^ 80) (by omega) (by omega) (by decide +kernel)
    · exact Int.le_refl 0
    · exact Int.le_refl 0
  by_cases h : (j : Int) < (ns.length : Nat)
  · rw [decide_eq_true h]
    have hlt : j < ns.length := by omega
    simp only [wp_cons, wp_nil, wp_if, wb, wp_cmp, wp_idx, wp_var, wp_cst, getP_0, getP_s, optP_some, cop_lt, cop_le, cop_gt, cop_ge, cop_eq, cop_ne, isB_bl, wp_asg, wp_bin, wp_blt, wp_rsC, wp_rsN, bi_int, bi_intb, bi_abs, bi_max, bi_min, bi_gcd, bop_add, bop_sub, stl_d, stl_l, tgt_nm, tgt_tp, tgts_nil, tgts_cons, sets_nil, sets_cons, nxt_nx, nxt_rt, nxt_bk, nxt_ct, List.set_cons_succ, List.set_cons_zero, wp_rt, wp_rtN, wp_pass, wp_brk, wp_cont, finR_rt, finR_nx, wp_expr, wp_par, wp_call, wp_esC, wp_esN, wp_esS, wp_tup, wp_lst, wp_neg, isI_int, wp_nt, wp_and, wp_or, wp_ite, wp_isin, wp_chain, isI_ty, isI_tb, isT_tt, wp_comp, wp_turn, wp_itS, wp_itR, wp_itZ, wp_itE, asIt_tup, asIt_l, wipe_nil, wipe_cons, tuple_l, len_tup, TQ_id, wp_for, List.length_set, wp_turnFor, List.map_cons, List.map_nil, List.length_cons, List.length_nil, List.cons_append, List.nil_append, List.replicate, Bool.not_true, Bool.not_false, Bool.and_self, Bool.true_and, Bool.and_true, Bool.false_and, Bool.and_false, decide_true, decide_false]
    have e2 : index (.d (.rl (ns.map D.int))) (.d (.int (j : Nat))) M = some (.d (.int ns[j])) := by
      show (match (some (ns.map D.int)).bind (atD · (j : Nat)) with | some d => some (Rv.d d) | none => none) = _
      have : atD (ns.map D.int) (j : Nat) = some (.int ns[j]) := by
        unfold atD
        rw [ixD_nat (by omega) (by rw [List.length_map]; omega)]
        simp [hlt]
      simp only [Option.bind_some, this]
    rw [e2]
    simp only [wp_cons, wp_nil, wp_if, wb, wp_cmp, wp_idx, wp_var, wp_cst, getP_0, getP_s, optP_some, cop_lt, cop_le, cop_gt, cop_ge, cop_eq, cop_ne, isB_bl, wp_asg, wp_bin, wp_blt, wp_rsC, wp_rsN, bi_int, bi_intb, bi_abs, bi_max, bi_min, bi_gcd, bop_add, bop_sub, stl_d, stl_l, tgt_nm, tgt_tp, tgts_nil, tgts_cons, sets_nil, sets_cons, nxt_nx, nxt_rt, nxt_bk, nxt_ct, List.set_cons_succ, List.set_cons_zero, wp_rt, wp_rtN, wp_pass, wp_brk, wp_cont, finR_rt, finR_nx, wp_expr, wp_par, wp_call, wp_esC, wp_esN, wp_esS, wp_tup, wp_lst, wp_neg, isI_int, wp_nt, wp_and, wp_or, wp_ite, wp_isin, wp_chain, isI_ty, isI_tb, isT_tt, wp_comp, wp_turn, wp_itS, wp_itR, wp_itZ, wp_itE, asIt_tup, asIt_l, wipe_nil, wipe_cons, tuple_l, len_tup, TQ_id, wp_for, List.length_set, wp_turnFor, List.map_cons, List.map_nil, List.length_cons, List.length_nil, List.cons_append, List.nil_append, List.replicate, Bool.not_true, Bool.not_false, Bool.and_self, Bool.true_and, Bool.and_true, Bool.false_and, Bool.and_false, decide_true, decide_false]
    have m := main ns[j]
    revert m
    simp only [wp_cons, wp_nil, wp_if, wb, wp_cmp, wp_idx, wp_var, wp_cst, getP_0, getP_s, optP_some, cop_lt, cop_le, cop_gt, cop_ge, cop_eq, cop_ne, isB_bl, wp_asg, wp_bin, wp_blt, wp_rsC, wp_rsN, bi_int, bi_intb, bi_abs, bi_max, bi_min, bi_gcd, bop_add, bop_sub, stl_d, stl_l, tgt_nm, tgt_tp, tgts_nil, tgts_cons, sets_nil, sets_cons, nxt_nx, nxt_rt, nxt_bk, nxt_ct, List.set_cons_succ, List.set_cons_zero, wp_rt, wp_rtN, wp_pass, wp_brk, wp_cont, finR_rt, finR_nx, wp_expr, wp_par, wp_call, wp_esC, wp_esN, wp_esS, wp_tup, wp_lst, wp_neg, isI_int, wp_nt, wp_and, wp_or, wp_ite, wp_isin, wp_chain, isI_ty, isI_tb, isT_tt, wp_comp, wp_turn, wp_itS, wp_itR, wp_itZ, wp_itE, asIt_tup, asIt_l, wipe_nil, wipe_cons, tuple_l, len_tup, TQ_id, wp_for, List.length_set, wp_turnFor, List.map_cons, List.map_nil, List.length_cons, List.length_nil, List.cons_append, List.nil_append, List.replicate, Bool.not_true, Bool.not_false, Bool.and_self, Bool.true_and, Bool.and_true, Bool.false_and, Bool.and_false, decide_true, decide_false]
    exact id
  · rw [decide_eq_false h]
    simp only [wp_cons, wp_nil, wp_if, wb, wp_cmp, wp_idx, wp_var, wp_cst, getP_0, getP_s, optP_some, cop_lt, cop_le, cop_gt, cop_ge, cop_eq, cop_ne, isB_bl, wp_asg, wp_bin, wp_blt, wp_rsC, wp_rsN, bi_int, bi_intb, bi_abs, bi_max, bi_min, bi_gcd, bop_add, bop_sub, stl_d, stl_l, tgt_nm, tgt_tp, tgts_nil, tgts_cons, sets_nil, sets_cons, nxt_nx, nxt_rt, nxt_bk, nxt_ct, List.set_cons_succ, List.set_cons_zero, wp_rt, wp_rtN, wp_pass, wp_brk, wp_cont, finR_rt, finR_nx, wp_expr, wp_par, wp_call, wp_esC, wp_esN, wp_esS, wp_tup, wp_lst, wp_neg, isI_int, wp_nt, wp_and, wp_or, wp_ite, wp_isin, wp_chain, isI_ty, isI_tb, isT_tt, wp_comp, wp_turn, wp_itS, wp_itR, wp_itZ, wp_itE, asIt_tup, asIt_l, wipe_nil, wipe_cons, tuple_l, len_tup, TQ_id, wp_for, List.length_set, wp_turnFor, List.map_cons, List.map_nil, List.length_cons, List.length_nil, List.cons_append, List.nil_append, List.replicate, Bool.not_true, Bool.not_false, Bool.and_self, Bool.true_and, Bool.and_true, Bool.false_and, Bool.and_false, decide_true, decide_false]
    rw [bop_mul (mulOk_of (m := 30) (by unfold Bn; decide) (n := 30) (Bn.lt (b := 200) (by omega) (by omega) (by decide)) (by decide))]
    simp only [wp_cons, wp_nil, wp_if, wb, wp_cmp, wp_idx, wp_var, wp_cst, getP_0, getP_s, optP_some, cop_lt, cop_le, cop_gt, cop_ge, cop_eq, cop_ne, isB_bl, wp_asg, wp_bin, wp_blt, wp_rsC, wp_rsN, bi_int, bi_intb, bi_abs, bi_max, bi_min, bi_gcd, bop_add, bop_sub, stl_d, stl_l, tgt_nm, tgt_tp, tgts_nil, tgts_cons, sets_nil, sets_cons, nxt_nx, nxt_rt, nxt_bk, nxt_ct, List.set_cons_succ, List.set_cons_zero, wp_rt, wp_rtN, wp_pass, wp_brk, wp_cont, finR_rt, finR_nx, wp_expr, wp_par, wp_call, wp_esC, wp_esN, wp_esS, wp_tup, wp_lst, wp_neg, isI_int, wp_nt, wp_and, wp_or, wp_ite, wp_isin, wp_chain, isI_ty, isI_tb, isT_tt, wp_comp, wp_turn, wp_itS, wp_itR, wp_itZ, wp_itE, asIt_tup, asIt_l, wipe_nil, wipe_cons, tuple_l, len_tup, TQ_id, wp_for, List.length_set, wp_turnFor, List.map_cons, List.map_nil, List.length_cons, List.length_nil, List.cons_append, List.nil_append, List.replicate, Bool.not_true, Bool.not_false, Bool.and_self, Bool.true_and, Bool.and_true, Bool.false_and, Bool.and_false, decide_true, decide_false]
    have m := main (223 * (j : Nat) + 71)
    revert m
    simp only [wp_cons, wp_nil, wp_if, wb, wp_cmp, wp_idx, wp_var, wp_cst, getP_0, getP_s, optP_some, cop_lt, cop_le, cop_gt, cop_ge, cop_eq, cop_ne, isB_bl, wp_asg, wp_bin, wp_blt, wp_rsC, wp_rsN, bi_int, bi_intb, bi_abs, bi_max, bi_min, bi_gcd, bop_add, bop_sub, stl_d, stl_l, tgt_nm, tgt_tp, tgts_nil, tgts_cons, sets_nil, sets_cons, nxt_nx, nxt_rt, nxt_bk, nxt_ct, List.set_cons_succ, List.set_cons_zero, wp_rt, wp_rtN, wp_pass, wp_brk, wp_cont, finR_rt, finR_nx, wp_expr, wp_par, wp_call, wp_esC, wp_esN, wp_esS, wp_tup, wp_lst, wp_neg, isI_int, wp_nt, wp_and, wp_or, wp_ite, wp_isin, wp_chain, isI_ty, isI_tb, isT_tt, wp_comp, wp_turn, wp_itS, wp_itR, wp_itZ, wp_itE, asIt_tup, asIt_l, wipe_nil, wipe_cons, tuple_l, len_tup, TQ_id, wp_for, List.length_set, wp_turnFor, List.map_cons, List.map_nil, List.length_cons, List.length_nil, List.cons_append, List.nil_append, List.replicate, Bool.not_true, Bool.not_false, Bool.and_self, Bool.true_and, Bool.and_true, Bool.false_and, Bool.and_false, decide_true, decide_false]
    exact id
/-! draws -/
theorem hSpin : T 13 = some dSpin := rfl
theorem hAmong : T 14 = some (dAmong 13) := rfl
section
variable {B : Ar} {p n : Nat} {s s0 : Sp}
theorem draw {t : Int} (hp : p < B.length) (hs : SpOk n s) (hn : n < 2 ^ 90) (ht : 0 < t) (hb : Bn 8000 t) (q : ∀ (r : Int) (s' : Sp), 0 ≤ r → r < t → SpOk (n + 1) s' → R (.d (.int r)) (B.set p (spO s'))) :
    WP (PH (k + 1) 13 [.ref p, .int t]) (B.set p (spO s)) (fun r M2 => TQ (B.set p (spO s0)) r M2 R) := spin_call hSpin hp hs (Nat.lt_of_lt_of_le hn (by decide)) ht hb q
theorem pick {items : List D} (hp : p < B.length) (hs : SpOk n s) (hn : n < 2 ^ 90) (h0 : items ≠ []) (hl : items.length ≤ 1000) (hf : ∀ d ∈ items, D.refsLt B.length d = true) (q : ∀ (d : D) (s' : Sp), d ∈ items → SpOk (n + 1) s' → R (.d d) (B.set p (spO s'))) :
    WP (PH (k + 2) 14 [.ref p, .ref B.length]) (B.set p (spO s) ++ [.lst items]) (fun r M2 => TQ (B.set p (spO s0)) r M2 R) :=
  among_call hSpin hAmong hp hs (Nat.lt_of_lt_of_le hn (by decide)) h0 (by unfold line; omega) fun j d s' hd h => ⟨hf d (List.mem_of_getElem? hd), q d s' (List.mem_of_getElem? hd) h⟩
theorem s15 {m t : Int} (hp : p < B.length) (hs : SpOk n s) (hn : n < 2 ^ 80) (hm : 0 ≤ m) (hm2 : m ≤ 100) (ht : 0 ≤ t) (hb : t ≤ 1000000)
    (q : ∀ (is : List Int) (s' : Sp), (is.length : Int) = m + 1 → (∀ i ∈ is, -t ≤ i ∧ i ≤ t) → SpOk (n + 1000) s' → R (.d (dI is)) (B.set p (spO s'))) : WP (PH (k+4) 15 [.ref p, .int m, .int t]) (B.set p (spO s)) R := by
  rw [wp_phi (d := d__law_plain_form) rfl rfl]
  unfold d__law_plain_form
  simp only [wp_cons, wp_nil, wp_if, wb, wp_cmp, wp_idx, wp_var, wp_cst, getP_0, getP_s, optP_some, cop_lt, cop_le, cop_gt, cop_ge, cop_eq, cop_ne, isB_bl, wp_asg, wp_bin, wp_blt, wp_rsC, wp_rsN, bi_int, bi_intb, bi_abs, bi_max, bi_min, bi_gcd, bop_add, bop_sub, stl_d, stl_l, tgt_nm, tgt_tp, tgts_nil, tgts_cons, sets_nil, sets_cons, nxt_nx, nxt_rt, nxt_bk, nxt_ct, List.set_cons_succ, List.set_cons_zero, wp_rt, wp_rtN, wp_pass, wp_brk, wp_cont, finR_rt, finR_nx, wp_expr, wp_par, wp_call, wp_esC, wp_esN, wp_esS, wp_tup, wp_lst, wp_neg, isI_int, wp_nt, wp_and, wp_or, wp_ite, wp_isin, wp_chain, isI_ty, isI_tb, isT_tt, wp_comp, wp_turn, wp_itS, wp_itR, wp_itZ, wp_itE, asIt_tup, asIt_l, wipe_nil, wipe_cons, tuple_l, len_tup, TQ_id, wp_for, List.length_set, wp_turnFor, List.map_cons, List.map_nil, List.length_cons, List.length_nil, List.cons_append, List.nil_append, List.replicate, Bool.not_true, Bool.not_false, Bool.and_self, Bool.true_and, Bool.and_true, Bool.false_and, Bool.and_false, decide_true, decide_false]
  rw [rng1 (by unfold small62; simp; omega)]
  simp only [wp_cons, wp_nil, wp_if, wb, wp_cmp, wp_idx, wp_var, wp_cst, getP_0, getP_s, optP_some, cop_lt, cop_le, cop_gt, cop_ge, cop_eq, cop_ne, isB_bl, wp_asg, wp_bin, wp_blt, wp_rsC, wp_rsN, bi_int, bi_intb, bi_abs, bi_max, bi_min, bi_gcd, bop_add, bop_sub, stl_d, stl_l, tgt_nm, tgt_tp, tgts_nil, tgts_cons, sets_nil, sets_cons, nxt_nx, nxt_rt, nxt_bk, nxt_ct, List.set_cons_succ, List.set_cons_zero, wp_rt, wp_rtN, wp_pass, wp_brk, wp_cont, finR_rt, finR_nx, wp_expr, wp_par, wp_call, wp_esC, wp_esN, wp_esS, wp_tup, wp_lst, wp_neg, isI_int, wp_nt, wp_and, wp_or, wp_ite, wp_isin, wp_chain, isI_ty, isI_tb, isT_tt, wp_comp, wp_turn, wp_itS, wp_itR, wp_itZ, wp_itE, asIt_tup, asIt_l, wipe_nil, wipe_cons, tuple_l, len_tup, TQ_id, wp_for, List.length_set, wp_turnFor, List.map_cons, List.map_nil, List.length_cons, List.length_nil, List.cons_append, List.nil_append, List.replicate, Bool.not_true, Bool.not_false, Bool.and_self, Bool.true_and, Bool.and_true, Bool.false_and, Bool.and_false, decide_true, decide_false]
  refine wp_compSt (fun i acc M' => ∃ (is : List Int) (s' : Sp), acc = is.map D.int ∧ is.length = i ∧ (∀ i ∈ is, -t ≤ i ∧ i ≤ t) ∧ SpOk (n + 2 * i) s' ∧ M' = B.set p (spO s')) (by rw [rngLen]; unfold line; omega) ⟨[], s, rfl, rfl, by simp, hs, rfl⟩ ?_ ?_
  · rintro i d acc M' hd _ ⟨is, s', rfl, hl, hbn, hs', rfl⟩
    have hi : i < (m + 1).toNat := by
      have := (List.getElem?_eq_some_iff.mp hd).1
      rwa [rngLen] at this
    simp only [wp_cons, wp_nil, wp_if, wb, wp_cmp, wp_idx, wp_var, wp_cst, getP_0, getP_s, optP_some, cop_lt, cop_le, cop_gt, cop_ge, cop_eq, cop_ne, isB_bl, wp_asg, wp_bin, wp_blt, wp_rsC, wp_rsN, bi_int, bi_intb, bi_abs, bi_max, bi_min, bi_gcd, bop_add, bop_sub, stl_d, stl_l, tgt_nm, tgt_tp, tgts_nil, tgts_cons, sets_nil, sets_cons, nxt_nx, nxt_rt, nxt_bk, nxt_ct, List.set_cons_succ, List.set_cons_zero, wp_rt, wp_rtN, wp_pass, wp_brk, wp_cont, finR_rt, finR_nx, wp_expr, wp_par, wp_call, wp_esC, wp_esN, wp_esS, wp_tup, wp_lst, wp_neg, isI_int, wp_nt, wp_and, wp_or, wp_ite, wp_isin, wp_chain, isI_ty, isI_tb, isT_tt, wp_comp, wp_turn, wp_itS, wp_itR, wp_itZ, wp_itE, asIt_tup, asIt_l, wipe_nil, wipe_cons, tuple_l, len_tup, TQ_id, wp_for, List.length_set, wp_turnFor, List.map_cons, List.map_nil, List.length_cons, List.length_nil, List.cons_append, List.nil_append, List.replicate, Bool.not_true, Bool.not_false, Bool.and_self, Bool.true_and, Bool.and_true, Bool.false_and, Bool.and_false, decide_true, decide_false]
    rw [bop_mul (mulOk_of (m := 30) (by unfold Bn; decide) (n := 30) (Bn.lt (b := 1000001) (by omega) (by omega) (by decide)) (by decide))]
    simp only [wp_cons, wp_nil, wp_if, wb, wp_cmp, wp_idx, wp_var, wp_cst, getP_0, getP_s, optP_some, cop_lt, cop_le, cop_gt, cop_ge, cop_eq, cop_ne, isB_bl, wp_asg, wp_bin, wp_blt, wp_rsC, wp_rsN, bi_int, bi_intb, bi_abs, bi_max, bi_min, bi_gcd, bop_add, bop_sub, stl_d, stl_l, tgt_nm, tgt_tp, tgts_nil, tgts_cons, sets_nil, sets_cons, nxt_nx, nxt_rt, nxt_bk, nxt_ct, List.set_cons_succ, List.set_cons_zero, wp_rt, wp_rtN, wp_pass, wp_brk, wp_cont, finR_rt, finR_nx, wp_expr, wp_par, wp_call, wp_esC, wp_esN, wp_esS, wp_tup, wp_lst, wp_neg, isI_int, wp_nt, wp_and, wp_or, wp_ite, wp_isin, wp_chain, isI_ty, isI_tb, isT_tt, wp_comp, wp_turn, wp_itS, wp_itR, wp_itZ, wp_itE, asIt_tup, asIt_l, wipe_nil, wipe_cons, tuple_l, len_tup, TQ_id, wp_for, List.length_set, wp_turnFor, List.map_cons, List.map_nil, List.length_cons, List.length_nil, List.cons_append, List.nil_append, List.replicate, Bool.not_true, Bool.not_false, Bool.and_self, Bool.true_and, Bool.and_true, Bool.false_and, Bool.and_false, decide_true, decide_false]
    refine draw hp hs' (by omega) (by omega) (Bn.mono (m := 40) (Bn.lt (b := 3000000) (by omega) (by omega) (by decide)) (by decide)) fun r s2 h0 h1 h2 => ?_
    simp only [wp_cons, wp_nil, wp_if, wb, wp_cmp, wp_idx, wp_var, wp_cst, getP_0, getP_s, optP_some, cop_lt, cop_le, cop_gt, cop_ge, cop_eq, cop_ne, isB_bl, wp_asg, wp_bin, wp_blt, wp_rsC, wp_rsN, bi_int, bi_intb, bi_abs, bi_max, bi_min, bi_gcd, bop_add, bop_sub, stl_d, stl_l, tgt_nm, tgt_tp, tgts_nil, tgts_cons, sets_nil, sets_cons, nxt_nx, nxt_rt, nxt_bk, nxt_ct, List.set_cons_succ, List.set_cons_zero, wp_rt, wp_rtN, wp_pass, wp_brk, wp_cont, finR_rt, finR_nx, wp_expr, wp_par, wp_call, wp_esC, wp_esN, wp_esS, wp_tup, wp_lst, wp_neg, isI_int, wp_nt, wp_and, wp_or, wp_ite, wp_isin, wp_chain, isI_ty, isI_tb, isT_tt, wp_comp, wp_turn, wp_itS, wp_itR, wp_itZ, wp_itE, asIt_tup, asIt_l, wipe_nil, wipe_cons, tuple_l, len_tup, TQ_id, wp_for, List.length_set, wp_turnFor, List.map_cons, List.map_nil, List.length_cons, List.length_nil, List.cons_append, List.nil_append, List.replicate, Bool.not_true, Bool.not_false, Bool.and_self, Bool.true_and, Bool.and_true, Bool.false_and, Bool.and_false, decide_true, decide_false]
    refine ⟨by decide, ?_⟩
    refine pick hp h2 (by omega) (by simp) (by simp) (by simp [D.refsLt]) fun d s3 hd h3 => ?_
    have : ∃ j : Int, d = .int j ∧ -t ≤ j ∧ j ≤ t := by
      simp only [List.mem_cons, List.not_mem_nil, or_false] at hd
      rcases hd with rfl | rfl | rfl
      · exact ⟨0, rfl, by omega, by omega⟩
      · exact ⟨0, rfl, by omega, by omega⟩
      · exact ⟨_, rfl, by omega, by omega⟩
    obtain ⟨j, rfl, hj⟩ := this
    simp only [wp_cons, wp_nil, wp_if, wb, wp_cmp, wp_idx, wp_var, wp_cst, getP_0, getP_s, optP_some, cop_lt, cop_le, cop_gt, cop_ge, cop_eq, cop_ne, isB_bl, wp_asg, wp_bin, wp_blt, wp_rsC, wp_rsN, bi_int, bi_intb, bi_abs, bi_max, bi_min, bi_gcd, bop_add, bop_sub, stl_d, stl_l, tgt_nm, tgt_tp, tgts_nil, tgts_cons, sets_nil, sets_cons, nxt_nx, nxt_rt, nxt_bk, nxt_ct, List.set_cons_succ, List.set_cons_zero, wp_rt, wp_rtN, wp_pass, wp_brk, wp_cont, finR_rt, finR_nx, wp_expr, wp_par, wp_call, wp_esC, wp_esN, wp_esS, wp_tup, wp_lst, wp_neg, isI_int, wp_nt, wp_and, wp_or, wp_ite, wp_isin, wp_chain, isI_ty, isI_tb, isT_tt, wp_comp, wp_turn, wp_itS, wp_itR, wp_itZ, wp_itE, asIt_tup, asIt_l, wipe_nil, wipe_cons, tuple_l, len_tup, TQ_id, wp_for, List.length_set, wp_turnFor, List.map_cons, List.map_nil, List.length_cons, List.length_nil, List.cons_append, List.nil_append, List.replicate, Bool.not_true, Bool.not_false, Bool.and_self, Bool.true_and, Bool.and_true, Bool.false_and, Bool.and_false, decide_true, decide_false]
    refine ⟨is ++ [j], s3, by simp, by simp [hl], fun x hx => ?_, h3.mono (by omega), rfl⟩
    rcases List.mem_append.mp hx with hx | hx
    · exact hbn x hx
    · rw [List.mem_singleton.mp hx]; exact hj
  · rintro acc M' ⟨is, s', rfl, hl, hbn, hs', rfl⟩
    rw [rngLen] at hl hs'
    exact q is s' (by omega) hbn (hs'.mono (by omega))
end
/-! Euclid -/
theorem s16 {is : List Int} (hl : is.length ≤ 100) (hi : ∀ i ∈ is, Bn 1800 i) : WP (PH (k+1) 16 [dI is]) M R = R (.d (.int (gl is : Nat))) M := by
  refine wp_exact ?_
  rw [wp_phi (d := d__law_shared) rfl rfl]
  unfold d__law_shared
  simp only [wp_cons, wp_nil, wp_if, wb, wp_cmp, wp_idx, wp_var, wp_cst, getP_0, getP_s, optP_some, cop_lt, cop_le, cop_gt, cop_ge, cop_eq, cop_ne, isB_bl, wp_asg, wp_bin, wp_blt, wp_rsC, wp_rsN, bi_int, bi_intb, bi_abs, bi_max, bi_min, bi_gcd, bop_add, bop_sub, stl_d, stl_l, tgt_nm, tgt_tp, tgts_nil, tgts_cons, sets_nil, sets_cons, nxt_nx, nxt_rt, nxt_bk, nxt_ct, List.set_cons_succ, List.set_cons_zero, wp_rt, wp_rtN, wp_pass, wp_brk, wp_cont, finR_rt, finR_nx, wp_expr, wp_par, wp_call, wp_esC, wp_esN, wp_esS, wp_tup, wp_lst, wp_neg, isI_int, wp_nt, wp_and, wp_or, wp_ite, wp_isin, wp_chain, isI_ty, isI_tb, isT_tt, wp_comp, wp_turn, wp_itS, wp_itR, wp_itZ, wp_itE, asIt_tup, asIt_l, wipe_nil, wipe_cons, tuple_l, len_tup, TQ_id, wp_for, List.length_set, wp_turnFor, List.map_cons, List.map_nil, List.length_cons, List.length_nil, List.cons_append, List.nil_append, List.replicate, Bool.not_true, Bool.not_false, Bool.and_self, Bool.true_and, Bool.and_true, Bool.false_and, Bool.and_false, decide_true, decide_false]
  refine wp_forSt (fun i e M' => ∃ x2 x3 x4 x5, e = [some (dI is), some (.int (gl (is.take i) : Nat)), x2, x3, x4, x5] ∧ M' = M) ⟨_, _, _, _, rfl, rfl⟩ ?_ ?_
  · rintro i d e M' hd ⟨x2, x3, x4, x5, rfl, rfl⟩
    rw [List.getElem?_map] at hd
    obtain ⟨j, hj, rfl⟩ := Option.map_eq_some_iff.mp hd
    obtain ⟨hlt, rfl⟩ := List.getElem?_eq_some_iff.mp hj
    simp only [wp_cons, wp_nil, wp_if, wb, wp_cmp, wp_idx, wp_var, wp_cst, getP_0, getP_s, optP_some, cop_lt, cop_le, cop_gt, cop_ge, cop_eq, cop_ne, isB_bl, wp_asg, wp_bin, wp_blt, wp_rsC, wp_rsN, bi_int, bi_intb, bi_abs, bi_max, bi_min, bi_gcd, bop_add, bop_sub, stl_d, stl_l, tgt_nm, tgt_tp, tgts_nil, tgts_cons, sets_nil, sets_cons, nxt_nx, nxt_rt, nxt_bk, nxt_ct, List.set_cons_succ, List.set_cons_zero, wp_rt, wp_rtN, wp_pass, wp_brk, wp_cont, finR_rt, finR_nx, wp_expr, wp_par, wp_call, wp_esC, wp_esN, wp_esS, wp_tup, wp_lst, wp_neg, isI_int, wp_nt, wp_and, wp_or, wp_ite, wp_isin, wp_chain, isI_ty, isI_tb, isT_tt, wp_comp, wp_turn, wp_itS, wp_itR, wp_itZ, wp_itE, asIt_tup, asIt_l, wipe_nil, wipe_cons, tuple_l, len_tup, TQ_id, wp_for, List.length_set, wp_turnFor, List.map_cons, List.map_nil, List.length_cons, List.length_nil, List.cons_append, List.nil_append, List.replicate, Bool.not_true, Bool.not_false, Bool.and_self, Bool.true_and, Bool.and_true, Bool.false_and, Bool.and_false, decide_true, decide_false]
    rw [rng1 (by decide)]
    simp only [wp_cons, wp_nil, wp_if, wb, wp_cmp, wp_idx, wp_var, wp_cst, getP_0, getP_s, optP_some, cop_lt, cop_le, cop_gt, cop_ge, cop_eq, cop_ne, isB_bl, wp_asg, wp_bin, wp_blt, wp_rsC, wp_rsN, bi_int, bi_intb, bi_abs, bi_max, bi_min, bi_gcd, bop_add, bop_sub, stl_d, stl_l, tgt_nm, tgt_tp, tgts_nil, tgts_cons, sets_nil, sets_cons, nxt_nx, nxt_rt, nxt_bk, nxt_ct, List.set_cons_succ, List.set_cons_zero, wp_rt, wp_rtN, wp_pass, wp_brk, wp_cont, finR_rt, finR_nx, wp_expr, wp_par, wp_call, wp_esC, wp_esN, wp_esS, wp_tup, wp_lst, wp_neg, isI_int, wp_nt, wp_and, wp_or, wp_ite, wp_isin, wp_chain, isI_ty, isI_tb, isT_tt, wp_comp, wp_turn, wp_itS, wp_itR, wp_itZ, wp_itE, asIt_tup, asIt_l, wipe_nil, wipe_cons, tuple_l, len_tup, TQ_id, wp_for, List.length_set, wp_turnFor, List.map_cons, List.map_nil, List.length_cons, List.length_nil, List.cons_append, List.nil_append, List.replicate, Bool.not_true, Bool.not_false, Bool.and_self, Bool.true_and, Bool.and_true, Bool.false_and, Bool.and_false, decide_true, decide_false]
    have hj := hi is[i] (List.getElem_mem hlt)
    have hg : Bn 1800 (gl (is.take i) : Nat) := gl_bn fun x hx => hi x (List.mem_of_mem_take hx)
    have gt := gl_take is i hlt
    generalize gl (is.take i) = g at *
    have ej : (if is[i] < 0 then -is[i] else is[i]) = ((is[i].natAbs : Nat) : Int) := by omega
    rw [ej]
    unfold Bn at hj hg
    rw [Int.natAbs_natCast] at hg
    generalize is[i].natAbs = b at *
    generalize hv : is[i] = v
    refine wp_forSt (fun m e M'' => ∃ (x3 : Option D) (a c : Nat), e = [some (dI is), some (.int (g : Nat)), some (.int v), x3, some (.int (a : Nat)), some (.int (c : Nat))] ∧ M'' = M' ∧ Nat.gcd a c = Nat.gcd g b ∧ (m = 0 ∨ c ≤ a) ∧ a * c * 2 ^ (m - 1) ≤ 2 ^ 3600) ⟨_, g, b, rfl, rfl, rfl, .inl rfl, ?_⟩ ?_ ?_
    · simp only [Nat.zero_sub, Nat.pow_zero, Nat.mul_one]
      calc g * b ≤ 2 ^ 1800 * 2 ^ 1800 := Nat.mul_le_mul hg hj
        _ = 2 ^ 3600 := by rw [← Nat.pow_add]
    · rintro m d e M'' hd ⟨x3, a, c, rfl, rfl, hgc, hle, hP⟩
      simp only [wp_cons, wp_nil, wp_if, wb, wp_cmp, wp_idx, wp_var, wp_cst, getP_0, getP_s, optP_some, cop_lt, cop_le, cop_gt, cop_ge, cop_eq, cop_ne, isB_bl, wp_asg, wp_bin, wp_blt, wp_rsC, wp_rsN, bi_int, bi_intb, bi_abs, bi_max, bi_min, bi_gcd, bop_add, bop_sub, stl_d, stl_l, tgt_nm, tgt_tp, tgts_nil, tgts_cons, sets_nil, sets_cons, nxt_nx, nxt_rt, nxt_bk, nxt_ct, List.set_cons_succ, List.set_cons_zero, wp_rt, wp_rtN, wp_pass, wp_brk, wp_cont, finR_rt, finR_nx, wp_expr, wp_par, wp_call, wp_esC, wp_esN, wp_esS, wp_tup, wp_lst, wp_neg, isI_int, wp_nt, wp_and, wp_or, wp_ite, wp_isin, wp_chain, isI_ty, isI_tb, isT_tt, wp_comp, wp_turn, wp_itS, wp_itR, wp_itZ, wp_itE, asIt_tup, asIt_l, wipe_nil, wipe_cons, tuple_l, len_tup, TQ_id, wp_for, List.length_set, wp_turnFor, List.map_cons, List.map_nil, List.length_cons, List.length_nil, List.cons_append, List.nil_append, List.replicate, Bool.not_true, Bool.not_false, Bool.and_self, Bool.true_and, Bool.and_true, Bool.false_and, Bool.and_false, decide_true, decide_false]
      by_cases hc : c = 0
      · subst hc
        rw [decide_eq_true (by rfl)]
        simp only [wp_cons, wp_nil, wp_if, wb, wp_cmp, wp_idx, wp_var, wp_cst, getP_0, getP_s, optP_some, cop_lt, cop_le, cop_gt, cop_ge, cop_eq, cop_ne, isB_bl, wp_asg, wp_bin, wp_blt, wp_rsC, wp_rsN, bi_int, bi_intb, bi_abs, bi_max, bi_min, bi_gcd, bop_add, bop_sub, stl_d, stl_l, tgt_nm, tgt_tp, tgts_nil, tgts_cons, sets_nil, sets_cons, nxt_nx, nxt_rt, nxt_bk, nxt_ct, List.set_cons_succ, List.set_cons_zero, wp_rt, wp_rtN, wp_pass, wp_brk, wp_cont, finR_rt, finR_nx, wp_expr, wp_par, wp_call, wp_esC, wp_esN, wp_esS, wp_tup, wp_lst, wp_neg, isI_int, wp_nt, wp_and, wp_or, wp_ite, wp_isin, wp_chain, isI_ty, isI_tb, isT_tt, wp_comp, wp_turn, wp_itS, wp_itR, wp_itZ, wp_itE, asIt_tup, asIt_l, wipe_nil, wipe_cons, tuple_l, len_tup, TQ_id, wp_for, List.length_set, wp_turnFor, List.map_cons, List.map_nil, List.length_cons, List.length_nil, List.cons_append, List.nil_append, List.replicate, Bool.not_true, Bool.not_false, Bool.and_self, Bool.true_and, Bool.and_true, Bool.false_and, Bool.and_false, decide_true, decide_false]
        refine ⟨some (.int v), some d, some (.int (a : Nat)), some (.int (0 : Nat)), ?_, trivial⟩
        rw [gt, ← hgc, Nat.gcd_zero_right]
      · rw [decide_eq_false (by omega)]
        simp only [wp_cons, wp_nil, wp_if, wb, wp_cmp, wp_idx, wp_var, wp_cst, getP_0, getP_s, optP_some, cop_lt, cop_le, cop_gt, cop_ge, cop_eq, cop_ne, isB_bl, wp_asg, wp_bin, wp_blt, wp_rsC, wp_rsN, bi_int, bi_intb, bi_abs, bi_max, bi_min, bi_gcd, bop_add, bop_sub, stl_d, stl_l, tgt_nm, tgt_tp, tgts_nil, tgts_cons, sets_nil, sets_cons, nxt_nx, nxt_rt, nxt_bk, nxt_ct, List.set_cons_succ, List.set_cons_zero, wp_rt, wp_rtN, wp_pass, wp_brk, wp_cont, finR_rt, finR_nx, wp_expr, wp_par, wp_call, wp_esC, wp_esN, wp_esS, wp_tup, wp_lst, wp_neg, isI_int, wp_nt, wp_and, wp_or, wp_ite, wp_isin, wp_chain, isI_ty, isI_tb, isT_tt, wp_comp, wp_turn, wp_itS, wp_itR, wp_itZ, wp_itE, asIt_tup, asIt_l, wipe_nil, wipe_cons, tuple_l, len_tup, TQ_id, wp_for, List.length_set, wp_turnFor, List.map_cons, List.map_nil, List.length_cons, List.length_nil, List.cons_append, List.nil_append, List.replicate, Bool.not_true, Bool.not_false, Bool.and_self, Bool.true_and, Bool.and_true, Bool.false_and, Bool.and_false, decide_true, decide_false]
        rw [bop_modP (by omega)]
        simp only [wp_cons, wp_nil, wp_if, wb, wp_cmp, wp_idx, wp_var, wp_cst, getP_0, getP_s, optP_some, cop_lt, cop_le, cop_gt, cop_ge, cop_eq, cop_ne, isB_bl, wp_asg, wp_bin, wp_blt, wp_rsC, wp_rsN, bi_int, bi_intb, bi_abs, bi_max, bi_min, bi_gcd, bop_add, bop_sub, stl_d, stl_l, tgt_nm, tgt_tp, tgts_nil, tgts_cons, sets_nil, sets_cons, nxt_nx, nxt_rt, nxt_bk, nxt_ct, List.set_cons_succ, List.set_cons_zero, wp_rt, wp_rtN, wp_pass, wp_brk, wp_cont, finR_rt, finR_nx, wp_expr, wp_par, wp_call, wp_esC, wp_esN, wp_esS, wp_tup, wp_lst, wp_neg, isI_int, wp_nt, wp_and, wp_or, wp_ite, wp_isin, wp_chain, isI_ty, isI_tb, isT_tt, wp_comp, wp_turn, wp_itS, wp_itR, wp_itZ, wp_itE, asIt_tup, asIt_l, wipe_nil, wipe_cons, tuple_l, len_tup, TQ_id, wp_for, List.length_set, wp_turnFor, List.map_cons, List.map_nil, List.length_cons, List.length_nil, List.cons_append, List.nil_append, List.replicate, Bool.not_true, Bool.not_false, Bool.and_self, Bool.true_and, Bool.and_true, Bool.false_and, Bool.and_false, decide_true, decide_false]
        refine ⟨some d, c, a % c, rfl, trivial, ?_, .inr (Nat.le_of_lt (Nat.mod_lt _ (by omega))), ?_⟩
        · rw [← hgc, Nat.gcd_comm a c, Nat.gcd_rec c a, Nat.gcd_comm]
        · have hm : a % c < c := Nat.mod_lt _ (by omega)
          have hd := Nat.div_add_mod a c
          rw [Nat.add_sub_cancel]
          by_cases h0 : m = 0
          · subst h0
            simp only [Nat.zero_sub, Nat.pow_zero, Nat.mul_one] at hP ⊢
            have : a % c ≤ a := Nat.mod_le _ _
            calc c * (a % c) ≤ c * a := Nat.mul_le_mul_left _ this
              _ = a * c := Nat.mul_comm _ _
              _ ≤ _ := hP
          · have hca : c ≤ a := by omega
            have hq : 1 ≤ a / c := (Nat.le_div_iff_mul_le (by omega)).mpr (by omega)
            have h2 : 2 * (a % c) ≤ a := by
              have : c ≤ c * (a / c) := Nat.le_mul_of_pos_right _ hq
              omega
            have ep : 2 ^ m = 2 * 2 ^ (m - 1) := by
              rw [← Nat.pow_succ']; congr 1; omega
            calc c * (a % c) * 2 ^ m = (2 * (a % c)) * c * 2 ^ (m - 1) := by rw [ep]; simp [Nat.mul_comm, Nat.mul_left_comm, Nat.mul_assoc]
              _ ≤ a * c * 2 ^ (m - 1) := Nat.mul_le_mul_right _ (Nat.mul_le_mul_right _ h2)
              _ ≤ _ := hP
    · rintro e M'' ⟨x3, a, c, rfl, rfl, hgc, hle, hP⟩
      rw [rngLen] at hP hle
      have hc : c = 0 := by
        by_cases hc : c = 0
        · exact hc
        · exfalso
          have ha : 1 ≤ a := by
            rcases hle with h | h
            · exact absurd h (by decide)
            · omega
          have h1 : 1 ≤ a * c := Nat.mul_pos ha (by omega)
          have h2 : 2 ^ ((4000 : Int).toNat - 1) ≤ 2 ^ 3600 := Nat.le_trans (Nat.le_mul_of_pos_left _ h1) hP
          exact absurd h2 (by decide +kernel)
      subst hc
      simp only [wp_cons, wp_nil, wp_if, wb, wp_cmp, wp_idx, wp_var, wp_cst, getP_0, getP_s, optP_some, cop_lt, cop_le, cop_gt, cop_ge, cop_eq, cop_ne, isB_bl, wp_asg, wp_bin, wp_blt, wp_rsC, wp_rsN, bi_int, bi_intb, bi_abs, bi_max, bi_min, bi_gcd, bop_add, bop_sub, stl_d, stl_l, tgt_nm, tgt_tp, tgts_nil, tgts_cons, sets_nil, sets_cons, nxt_nx, nxt_rt, nxt_bk, nxt_ct, List.set_cons_succ, List.set_cons_zero, wp_rt, wp_rtN, wp_pass, wp_brk, wp_cont, finR_rt, finR_nx, wp_expr, wp_par, wp_call, wp_esC, wp_esN, wp_esS, wp_tup, wp_lst, wp_neg, isI_int, wp_nt, wp_and, wp_or, wp_ite, wp_isin, wp_chain, isI_ty, isI_tb, isT_tt, wp_comp, wp_turn, wp_itS, wp_itR, wp_itZ, wp_itE, asIt_tup, asIt_l, wipe_nil, wipe_cons, tuple_l, len_tup, TQ_id, wp_for, List.length_set, wp_turnFor, List.map_cons, List.map_nil, List.length_cons, List.length_nil, List.cons_append, List.nil_append, List.replicate, Bool.not_true, Bool.not_false, Bool.and_self, Bool.true_and, Bool.and_true, Bool.false_and, Bool.and_false, decide_true, decide_false]
      refine ⟨some (.int v), x3, some (.int (a : Nat)), some (.int (0 : Nat)), ?_, trivial⟩
      rw [gt, ← hgc, Nat.gcd_zero_right]
  · rintro e M' ⟨x2, x3, x4, x5, rfl, rfl⟩
    rw [List.length_map, List.take_length]
    simp only [wp_cons, wp_nil, wp_if, wb, wp_cmp, wp_idx, wp_var, wp_cst, getP_0, getP_s, optP_some, cop_lt, cop_le, cop_gt, cop_ge, cop_eq, cop_ne, isB_bl, wp_asg, wp_bin, wp_blt, wp_rsC, wp_rsN, bi_int, bi_intb, bi_abs, bi_max, bi_min, bi_gcd, bop_add, bop_sub, stl_d, stl_l, tgt_nm, tgt_tp, tgts_nil, tgts_cons, sets_nil, sets_cons, nxt_nx, nxt_rt, nxt_bk, nxt_ct, List.set_cons_succ, List.set_cons_zero, wp_rt, wp_rtN, wp_pass, wp_brk, wp_cont, finR_rt, finR_nx, wp_expr, wp_par, wp_call, wp_esC, wp_esN, wp_esS, wp_tup, wp_lst, wp_neg, isI_int, wp_nt, wp_and, wp_or, wp_ite, wp_isin, wp_chain, isI_ty, isI_tb, isT_tt, wp_comp, wp_turn, wp_itS, wp_itR, wp_itZ, wp_itE, asIt_tup, asIt_l, wipe_nil, wipe_cons, tuple_l, len_tup, TQ_id, wp_for, List.length_set, wp_turnFor, List.map_cons, List.map_nil, List.length_cons, List.length_nil, List.cons_append, List.nil_append, List.replicate, Bool.not_true, Bool.not_false, Bool.and_self, Bool.true_and, Bool.and_true, Bool.false_and, Bool.and_false, decide_true, decide_false]
    exact ⟨trivial, trivial⟩
/-! plain facts -/
theorem foldl_gcd : ∀ (is : List Int) (g : Nat), is.foldl (fun g i => Nat.gcd g i.natAbs) g = Nat.gcd g (gl is)
  | [], g => by simp [gl]
  | i :: is, g => by
    have e : gl (i :: is) = is.foldl (fun g i => Nat.gcd g i.natAbs) (Nat.gcd 0 i.natAbs) := rfl
    rw [List.foldl_cons, foldl_gcd is, e, foldl_gcd is, Nat.gcd_zero_left, Nat.gcd_assoc]
theorem gl_cons (i : Int) (is : List Int) : gl (i :: is) = Nat.gcd i.natAbs (gl is) := by
  have e : gl (i :: is) = is.foldl (fun g i => Nat.gcd g i.natAbs) (Nat.gcd 0 i.natAbs) := rfl
  rw [e, foldl_gcd, Nat.gcd_zero_left]
theorem gl_dvd : ∀ (is : List Int) (i : Int), i ∈ is → (gl is : Int) ∣ i
  | j :: is, i, h => by
    rw [gl_cons]
    rcases List.mem_cons.mp h with rfl | h
    · exact Int.ofNat_dvd_left.mpr (Nat.gcd_dvd_left _ _)
    · exact Int.dvd_trans (Int.natCast_dvd_natCast.mpr (Nat.gcd_dvd_right _ _)) (gl_dvd is i h)
theorem gl_mul (c : Nat) : ∀ is : List Int, gl (is.map fun i => (c : Int) * i) = c * gl is
  | [] => rfl
  | i :: is => by
    rw [List.map_cons, gl_cons, gl_cons, gl_mul c is, Int.natAbs_mul, Int.natAbs_natCast, Nat.gcd_mul_left]
theorem low_back (is : List Int) : gl is ≠ 0 → (low is).map (fun i => (gl is : Int) * i) = is := fun h => by
  unfold low
  by_cases c : gl is > 1
  · rw [if_pos c, List.map_map]
    have : ∀ i ∈ is, ((fun i => (gl is : Int) * i) ∘ fun i => i / (gl is : Int)) i = i := fun i hi => Int.mul_ediv_cancel' (gl_dvd is i hi)
    rw [List.map_congr_left this]
    exact List.map_id' is
  · rw [if_neg c]
    have : gl is = 1 := by omega
    rw [this]
    simp
theorem gl_low (is : List Int) (h : gl is ≠ 0) : gl (low is) = 1 := by
  have e := congrArg gl (low_back is h)
  rw [gl_mul] at e
  exact Nat.eq_of_mul_eq_mul_left (n := gl is) (by omega) (by rw [e, Nat.mul_one])
theorem low_low (is : List Int) (h : gl is ≠ 0) : low (low is) = low is := by
  have e := gl_low is h
  generalize low is = js at *
  unfold low
  rw [if_neg (by rw [e]; decide)]
theorem dot_mul (c : Int) : ∀ is js : List Int, dot is (js.map fun j => c * j) = c * dot is js
  | [], js => by simp [dot]
  | _ :: _, [] => by simp [dot]
  | i :: is, j :: js => by
    have e : ∀ (x y : Int) (xs ys : List Int), dot (x :: xs) (y :: ys) = x * y + dot xs ys := fun x y xs ys => by simp [dot]
    rw [List.map_cons, e, e, dot_mul c is js, Int.mul_add]
    congr 1
    rw [← Int.mul_assoc, Int.mul_comm i c, Int.mul_assoc]
theorem dot_cons (x y : Int) (xs ys : List Int) : dot (x :: xs) (y :: ys) = x * y + dot xs ys := by simp [dot]
theorem dot_neg : ∀ is js : List Int, dot (is.map fun i => -i) js = -dot is js
  | [], js => by simp [dot]
  | _ :: _, [] => by simp [dot]
  | i :: is, j :: js => by
    rw [List.map_cons, dot_cons, dot_cons, dot_neg is js, Int.neg_mul]; omega
theorem opp_opp (is : List Int) : opp (opp is) = is := by
  cases is with
  | nil => rfl
  | cons i is =>
    show (-(-i - 1) - 1) :: (is.map fun j => -j).map (fun j => -j) = _
    rw [List.map_map]
    congr 1
    · omega
    · have : ∀ j ∈ is, ((fun j : Int => -j) ∘ fun j => -j) j = j := fun j _ => Int.neg_neg j
      rw [List.map_congr_left this, List.map_id']
theorem dot_opp (i : Int) (is vs : List Int) : dot (opp (i :: is)) (1 :: vs) = -dot (i :: is) (1 :: vs) - 1 := by
  unfold opp
  rw [dot_cons, dot_cons, dot_neg]; omega
theorem dot_bn {a b : Int} (ha : 0 ≤ a) (hb : 0 ≤ b) : ∀ (is js : List Int), (∀ i ∈ is, -a ≤ i ∧ i ≤ a) → (∀ j ∈ js, -b ≤ j ∧ j ≤ b) → -(a * b * is.length) ≤ dot is js ∧ dot is js ≤ a * b * is.length
  | [], js, _, _ => by simp [dot]
  | i :: is, [], _, _ => by
    have : 0 ≤ a * b := Int.mul_nonneg ha hb
    have : 0 ≤ a * b * ((i :: is).length : Int) := Int.mul_nonneg this (by omega)
    simp only [dot, List.zip_nil_right, List.map_nil, List.sum_nil]
    omega
  | i :: is, j :: js, h1, h2 => by
    have ih := dot_bn ha hb is js (fun x hx => h1 x (List.mem_cons_of_mem _ hx)) (fun x hx => h2 x (List.mem_cons_of_mem _ hx))
    have hi := h1 i (List.mem_cons_self ..)
    have hj := h2 j (List.mem_cons_self ..)
    have q : (i * j).natAbs ≤ (a * b).natAbs := by
      rw [Int.natAbs_mul, Int.natAbs_mul]
      exact Nat.mul_le_mul (by omega) (by omega)
    have hab : 0 ≤ a * b := Int.mul_nonneg ha hb
    rw [dot_cons, List.length_cons]
    have e : a * b * ((is.length + 1 : Nat) : Int) = a * b * (is.length : Int) + a * b := by
      rw [Int.natCast_add, Int.mul_add]; simp
    rw [e]
    generalize a * b = ab at *
    generalize i * j = ij at *
    generalize ab * (is.length : Int) = w at *
    omega
theorem low_cons {v : Int} {vs : List Int} (h : 0 ≤ v) : ∃ j js, low (v :: vs) = j :: js ∧ 0 ≤ j ∧ js.length = vs.length ∧ ∀ n, (∀ x ∈ v :: vs, Bn n x) → ∀ x ∈ j :: js, Bn n x := by
  unfold low
  by_cases c : gl (v :: vs) > 1
  · rw [if_pos c]
    refine ⟨_, _, rfl, Int.ediv_nonneg h (by omega), by simp, fun n hn x hx => ?_⟩
    have hx : x ∈ (v :: vs).map fun i => i / (gl (v :: vs) : Int) := hx
    obtain ⟨y, hy, rfl⟩ := List.mem_map.mp hx
    exact Nat.le_trans (Int.natAbs_ediv_le_natAbs _ _) (hn y hy)
  · rw [if_neg c]
    exact ⟨_, _, rfl, h, rfl, fun n hn => hn⟩
theorem short_of {is : List Int} (h : ∀ i ∈ is, -10000000000 ≤ i ∧ i ≤ 10000000000) : is.all shortI = true := List.all_eq_true.mpr fun i hi => by
  have := h i hi
  unfold shortI
  rw [Bool.and_eq_true, decide_eq_true_eq, decide_eq_true_eq]
  have : (10000000000 : Int) < S60 := by decide
  constructor <;> omega
theorem opp_bd {a : Int} {is : List Int} (ha : 0 ≤ a) (h : ∀ i ∈ is, -a ≤ i ∧ i ≤ a) : ∀ i ∈ opp is, -(a + 1) ≤ i ∧ i ≤ a + 1 := fun i hi => by
  cases is with
  | nil => cases hi
  | cons j js =>
    rcases List.mem_cons.mp hi with rfl | hi
    · have := h j (List.mem_cons_self ..); omega
    · obtain ⟨x, hx, rfl⟩ := List.mem_map.mp hi
      have := h x (List.mem_cons_of_mem _ hx); omega
theorem opp_len (is : List Int) : (opp is).length = is.length := by cases is <;> simp [opp]
section
variable {B : Ar} {p n : Nat} {s s0 : Sp}
theorem s17 (hp : p < B.length) (hs : SpOk n s) (hn : n < 2 ^ 60) (q : ∀ s' : Sp, SpOk (n + 10000) s' → R (.d (.bl true)) (B.set p (spO s'))) : WP (PH (k+7) 17 [.ref p]) (B.set p (spO s)) R := by
  rw [wp_phi (d := d__law_right) rfl rfl]
  unfold d__law_right
  simp only [wp_cons, wp_nil, wp_if, wb, wp_cmp, wp_idx, wp_var, wp_cst, getP_0, getP_s, optP_some, cop_lt, cop_le, cop_gt, cop_ge, cop_eq, cop_ne, isB_bl, wp_asg, wp_bin, wp_blt, wp_rsC, wp_rsN, bi_int, bi_intb, bi_abs, bi_max, bi_min, bi_gcd, bop_add, bop_sub, stl_d, stl_l, tgt_nm, tgt_tp, tgts_nil, tgts_cons, sets_nil, sets_cons, nxt_nx, nxt_rt, nxt_bk, nxt_ct, List.set_cons_succ, List.set_cons_zero, wp_rt, wp_rtN, wp_pass, wp_brk, wp_cont, finR_rt, finR_nx, wp_expr, wp_par, wp_call, wp_esC, wp_esN, wp_esS, wp_tup, wp_lst, wp_neg, isI_int, wp_nt, wp_and, wp_or, wp_ite, wp_isin, wp_chain, isI_ty, isI_tb, isT_tt, wp_comp, wp_turn, wp_itS, wp_itR, wp_itZ, wp_itE, asIt_tup, asIt_l, wipe_nil, wipe_cons, tuple_l, len_tup, TQ_id, wp_for, List.length_set, wp_turnFor, List.map_cons, List.map_nil, List.length_cons, List.length_nil, List.cons_append, List.nil_append, List.replicate, Bool.not_true, Bool.not_false, Bool.and_self, Bool.true_and, Bool.and_true, Bool.false_and, Bool.and_false, decide_true, decide_false]
  refine ⟨by decide, ?_⟩
  refine pick hp hs (by omega) (by simp) (by simp) (by simp [D.refsLt]) fun d s1 hd h1 => ?_
  obtain ⟨m, rfl, hm0, hm14⟩ : ∃ m : Int, d = .int m ∧ 0 ≤ m ∧ m ≤ 14 := by
    simp only [List.mem_cons, List.not_mem_nil, or_false] at hd
    rcases hd with rfl | rfl | rfl | rfl | rfl | rfl <;> exact ⟨_, rfl, by decide, by decide⟩
  simp only [wp_cons, wp_nil, wp_if, wb, wp_cmp, wp_idx, wp_var, wp_cst, getP_0, getP_s, optP_some, cop_lt, cop_le, cop_gt, cop_ge, cop_eq, cop_ne, isB_bl, wp_asg, wp_bin, wp_blt, wp_rsC, wp_rsN, bi_int, bi_intb, bi_abs, bi_max, bi_min, bi_gcd, bop_add, bop_sub, stl_d, stl_l, tgt_nm, tgt_tp, tgts_nil, tgts_cons, sets_nil, sets_cons, nxt_nx, nxt_rt, nxt_bk, nxt_ct, List.set_cons_succ, List.set_cons_zero, wp_rt, wp_rtN, wp_pass, wp_brk, wp_cont, finR_rt, finR_nx, wp_expr, wp_par, wp_call, wp_esC, wp_esN, wp_esS, wp_tup, wp_lst, wp_neg, isI_int, wp_nt, wp_and, wp_or, wp_ite, wp_isin, wp_chain, isI_ty, isI_tb, isT_tt, wp_comp, wp_turn, wp_itS, wp_itR, wp_itZ, wp_itE, asIt_tup, asIt_l, wipe_nil, wipe_cons, tuple_l, len_tup, TQ_id, wp_for, List.length_set, wp_turnFor, List.map_cons, List.map_nil, List.length_cons, List.length_nil, List.cons_append, List.nil_append, List.replicate, Bool.not_true, Bool.not_false, Bool.and_self, Bool.true_and, Bool.and_true, Bool.false_and, Bool.and_false, decide_true, decide_false]
  rw [bop_pow (by decide +kernel)]
  simp only [wp_cons, wp_nil, wp_if, wb, wp_cmp, wp_idx, wp_var, wp_cst, getP_0, getP_s, optP_some, cop_lt, cop_le, cop_gt, cop_ge, cop_eq, cop_ne, isB_bl, wp_asg, wp_bin, wp_blt, wp_rsC, wp_rsN, bi_int, bi_intb, bi_abs, bi_max, bi_min, bi_gcd, bop_add, bop_sub, stl_d, stl_l, tgt_nm, tgt_tp, tgts_nil, tgts_cons, sets_nil, sets_cons, nxt_nx, nxt_rt, nxt_bk, nxt_ct, List.set_cons_succ, List.set_cons_zero, wp_rt, wp_rtN, wp_pass, wp_brk, wp_cont, finR_rt, finR_nx, wp_expr, wp_par, wp_call, wp_esC, wp_esN, wp_esS, wp_tup, wp_lst, wp_neg, isI_int, wp_nt, wp_and, wp_or, wp_ite, wp_isin, wp_chain, isI_ty, isI_tb, isT_tt, wp_comp, wp_turn, wp_itS, wp_itR, wp_itZ, wp_itE, asIt_tup, asIt_l, wipe_nil, wipe_cons, tuple_l, len_tup, TQ_id, wp_for, List.length_set, wp_turnFor, List.map_cons, List.map_nil, List.length_cons, List.length_nil, List.cons_append, List.nil_append, List.replicate, Bool.not_true, Bool.not_false, Bool.and_self, Bool.true_and, Bool.and_true, Bool.false_and, Bool.and_false, decide_true, decide_false]
  rw [bop_pow (by decide +kernel)]
  simp only [wp_cons, wp_nil, wp_if, wb, wp_cmp, wp_idx, wp_var, wp_cst, getP_0, getP_s, optP_some, cop_lt, cop_le, cop_gt, cop_ge, cop_eq, cop_ne, isB_bl, wp_asg, wp_bin, wp_blt, wp_rsC, wp_rsN, bi_int, bi_intb, bi_abs, bi_max, bi_min, bi_gcd, bop_add, bop_sub, stl_d, stl_l, tgt_nm, tgt_tp, tgts_nil, tgts_cons, sets_nil, sets_cons, nxt_nx, nxt_rt, nxt_bk, nxt_ct, List.set_cons_succ, List.set_cons_zero, wp_rt, wp_rtN, wp_pass, wp_brk, wp_cont, finR_rt, finR_nx, wp_expr, wp_par, wp_call, wp_esC, wp_esN, wp_esS, wp_tup, wp_lst, wp_neg, isI_int, wp_nt, wp_and, wp_or, wp_ite, wp_isin, wp_chain, isI_ty, isI_tb, isT_tt, wp_comp, wp_turn, wp_itS, wp_itR, wp_itZ, wp_itE, asIt_tup, asIt_l, wipe_nil, wipe_cons, tuple_l, len_tup, TQ_id, wp_for, List.length_set, wp_turnFor, List.map_cons, List.map_nil, List.length_cons, List.length_nil, List.cons_append, List.nil_append, List.replicate, Bool.not_true, Bool.not_false, Bool.and_self, Bool.true_and, Bool.and_true, Bool.false_and, Bool.and_false, decide_true, decide_false]
  refine ⟨by decide, ?_⟩
  refine pick hp h1 (by omega) (by simp) (by simp) (by simp [D.refsLt]) fun d s2 hd h2 => ?_
  obtain ⟨z, rfl, hz0, hz1⟩ : ∃ z : Int, d = .int z ∧ 0 ≤ z ∧ z ≤ 10 ^ 40 := by
    simp only [List.mem_cons, List.not_mem_nil, or_false] at hd
    rcases hd with rfl | rfl | rfl | rfl <;> exact ⟨_, rfl, by decide +kernel, by decide +kernel⟩
  simp only [wp_cons, wp_nil, wp_if, wb, wp_cmp, wp_idx, wp_var, wp_cst, getP_0, getP_s, optP_some, cop_lt, cop_le, cop_gt, cop_ge, cop_eq, cop_ne, isB_bl, wp_asg, wp_bin, wp_blt, wp_rsC, wp_rsN, bi_int, bi_intb, bi_abs, bi_max, bi_min, bi_gcd, bop_add, bop_sub, stl_d, stl_l, tgt_nm, tgt_tp, tgts_nil, tgts_cons, sets_nil, sets_cons, nxt_nx, nxt_rt, nxt_bk, nxt_ct, List.set_cons_succ, List.set_cons_zero, wp_rt, wp_rtN, wp_pass, wp_brk, wp_cont, finR_rt, finR_nx, wp_expr, wp_par, wp_call, wp_esC, wp_esN, wp_esS, wp_tup, wp_lst, wp_neg, isI_int, wp_nt, wp_and, wp_or, wp_ite, wp_isin, wp_chain, isI_ty, isI_tb, isT_tt, wp_comp, wp_turn, wp_itS, wp_itR, wp_itZ, wp_itE, asIt_tup, asIt_l, wipe_nil, wipe_cons, tuple_l, len_tup, TQ_id, wp_for, List.length_set, wp_turnFor, List.map_cons, List.map_nil, List.length_cons, List.length_nil, List.cons_append, List.nil_append, List.replicate, Bool.not_true, Bool.not_false, Bool.and_self, Bool.true_and, Bool.and_true, Bool.false_and, Bool.and_false, decide_true, decide_false]
  refine draw hp h2 (by omega) (by omega) (Bn.mono (m := 40) (by unfold Bn; decide) (by decide)) fun r s3 hr0 hr1 h3 => ?_
  simp only [wp_cons, wp_nil, wp_if, wb, wp_cmp, wp_idx, wp_var, wp_cst, getP_0, getP_s, optP_some, cop_lt, cop_le, cop_gt, cop_ge, cop_eq, cop_ne, isB_bl, wp_asg, wp_bin, wp_blt, wp_rsC, wp_rsN, bi_int, bi_intb, bi_abs, bi_max, bi_min, bi_gcd, bop_add, bop_sub, stl_d, stl_l, tgt_nm, tgt_tp, tgts_nil, tgts_cons, sets_nil, sets_cons, nxt_nx, nxt_rt, nxt_bk, nxt_ct, List.set_cons_succ, List.set_cons_zero, wp_rt, wp_rtN, wp_pass, wp_brk, wp_cont, finR_rt, finR_nx, wp_expr, wp_par, wp_call, wp_esC, wp_esN, wp_esS, wp_tup, wp_lst, wp_neg, isI_int, wp_nt, wp_and, wp_or, wp_ite, wp_isin, wp_chain, isI_ty, isI_tb, isT_tt, wp_comp, wp_turn, wp_itS, wp_itR, wp_itZ, wp_itE, asIt_tup, asIt_l, wipe_nil, wipe_cons, tuple_l, len_tup, TQ_id, wp_for, List.length_set, wp_turnFor, List.map_cons, List.map_nil, List.length_cons, List.length_nil, List.cons_append, List.nil_append, List.replicate, Bool.not_true, Bool.not_false, Bool.and_self, Bool.true_and, Bool.and_true, Bool.false_and, Bool.and_false, decide_true, decide_false]
  refine ⟨by decide, ?_⟩
  rw [rng1 (by unfold small62; simp; omega)]
  simp only [wp_cons, wp_nil, wp_if, wb, wp_cmp, wp_idx, wp_var, wp_cst, getP_0, getP_s, optP_some, cop_lt, cop_le, cop_gt, cop_ge, cop_eq, cop_ne, isB_bl, wp_asg, wp_bin, wp_blt, wp_rsC, wp_rsN, bi_int, bi_intb, bi_abs, bi_max, bi_min, bi_gcd, bop_add, bop_sub, stl_d, stl_l, tgt_nm, tgt_tp, tgts_nil, tgts_cons, sets_nil, sets_cons, nxt_nx, nxt_rt, nxt_bk, nxt_ct, List.set_cons_succ, List.set_cons_zero, wp_rt, wp_rtN, wp_pass, wp_brk, wp_cont, finR_rt, finR_nx, wp_expr, wp_par, wp_call, wp_esC, wp_esN, wp_esS, wp_tup, wp_lst, wp_neg, isI_int, wp_nt, wp_and, wp_or, wp_ite, wp_isin, wp_chain, isI_ty, isI_tb, isT_tt, wp_comp, wp_turn, wp_itS, wp_itR, wp_itZ, wp_itE, asIt_tup, asIt_l, wipe_nil, wipe_cons, tuple_l, len_tup, TQ_id, wp_for, List.length_set, wp_turnFor, List.map_cons, List.map_nil, List.length_cons, List.length_nil, List.cons_append, List.nil_append, List.replicate, Bool.not_true, Bool.not_false, Bool.and_self, Bool.true_and, Bool.and_true, Bool.false_and, Bool.and_false, decide_true, decide_false]
  refine wp_compSt (fun i acc M' => ∃ (is : List Int) (s' : Sp), acc = is.map D.int ∧ is.length = i ∧ (∀ i ∈ is, -z ≤ i ∧ i ≤ z) ∧ SpOk (n + 3 + i) s' ∧ M' = B.set p (spO s')) (by rw [rngLen]; unfold line; omega) ⟨[], s3, rfl, rfl, by simp, h3, rfl⟩ ?_ ?_
  · rintro i d acc M' hd _ ⟨is, s', rfl, hl, hbn, hs', rfl⟩
    have hi : i < m.toNat := by
      have := (List.getElem?_eq_some_iff.mp hd).1
      rwa [rngLen] at this
    simp only [wp_cons, wp_nil, wp_if, wb, wp_cmp, wp_idx, wp_var, wp_cst, getP_0, getP_s, optP_some, cop_lt, cop_le, cop_gt, cop_ge, cop_eq, cop_ne, isB_bl, wp_asg, wp_bin, wp_blt, wp_rsC, wp_rsN, bi_int, bi_intb, bi_abs, bi_max, bi_min, bi_gcd, bop_add, bop_sub, stl_d, stl_l, tgt_nm, tgt_tp, tgts_nil, tgts_cons, sets_nil, sets_cons, nxt_nx, nxt_rt, nxt_bk, nxt_ct, List.set_cons_succ, List.set_cons_zero, wp_rt, wp_rtN, wp_pass, wp_brk, wp_cont, finR_rt, finR_nx, wp_expr, wp_par, wp_call, wp_esC, wp_esN, wp_esS, wp_tup, wp_lst, wp_neg, isI_int, wp_nt, wp_and, wp_or, wp_ite, wp_isin, wp_chain, isI_ty, isI_tb, isT_tt, wp_comp, wp_turn, wp_itS, wp_itR, wp_itZ, wp_itE, asIt_tup, asIt_l, wipe_nil, wipe_cons, tuple_l, len_tup, TQ_id, wp_for, List.length_set, wp_turnFor, List.map_cons, List.map_nil, List.length_cons, List.length_nil, List.cons_append, List.nil_append, List.replicate, Bool.not_true, Bool.not_false, Bool.and_self, Bool.true_and, Bool.and_true, Bool.false_and, Bool.and_false, decide_true, decide_false]
    have hzb : Bn 140 z := Bn.lt hz0 (b := 10 ^ 40 + 1) (by omega) (by decide +kernel)
    rw [bop_mul (mulOk_of (m := 30) (by unfold Bn; decide) hzb (by decide))]
    simp only [wp_cons, wp_nil, wp_if, wb, wp_cmp, wp_idx, wp_var, wp_cst, getP_0, getP_s, optP_some, cop_lt, cop_le, cop_gt, cop_ge, cop_eq, cop_ne, isB_bl, wp_asg, wp_bin, wp_blt, wp_rsC, wp_rsN, bi_int, bi_intb, bi_abs, bi_max, bi_min, bi_gcd, bop_add, bop_sub, stl_d, stl_l, tgt_nm, tgt_tp, tgts_nil, tgts_cons, sets_nil, sets_cons, nxt_nx, nxt_rt, nxt_bk, nxt_ct, List.set_cons_succ, List.set_cons_zero, wp_rt, wp_rtN, wp_pass, wp_brk, wp_cont, finR_rt, finR_nx, wp_expr, wp_par, wp_call, wp_esC, wp_esN, wp_esS, wp_tup, wp_lst, wp_neg, isI_int, wp_nt, wp_and, wp_or, wp_ite, wp_isin, wp_chain, isI_ty, isI_tb, isT_tt, wp_comp, wp_turn, wp_itS, wp_itR, wp_itZ, wp_itE, asIt_tup, asIt_l, wipe_nil, wipe_cons, tuple_l, len_tup, TQ_id, wp_for, List.length_set, wp_turnFor, List.map_cons, List.map_nil, List.length_cons, List.length_nil, List.cons_append, List.nil_append, List.replicate, Bool.not_true, Bool.not_false, Bool.and_self, Bool.true_and, Bool.and_true, Bool.false_and, Bool.and_false, decide_true, decide_false]
    refine draw hp hs' (by omega) (by omega) (Bn.lt (b := 10 ^ 50) (by omega) (by omega) (by decide +kernel)) fun x s4 hx0 hx1 h4 => ?_
    simp only [wp_cons, wp_nil, wp_if, wb, wp_cmp, wp_idx, wp_var, wp_cst, getP_0, getP_s, optP_some, cop_lt, cop_le, cop_gt, cop_ge, cop_eq, cop_ne, isB_bl, wp_asg, wp_bin, wp_blt, wp_rsC, wp_rsN, bi_int, bi_intb, bi_abs, bi_max, bi_min, bi_gcd, bop_add, bop_sub, stl_d, stl_l, tgt_nm, tgt_tp, tgts_nil, tgts_cons, sets_nil, sets_cons, nxt_nx, nxt_rt, nxt_bk, nxt_ct, List.set_cons_succ, List.set_cons_zero, wp_rt, wp_rtN, wp_pass, wp_brk, wp_cont, finR_rt, finR_nx, wp_expr, wp_par, wp_call, wp_esC, wp_esN, wp_esS, wp_tup, wp_lst, wp_neg, isI_int, wp_nt, wp_and, wp_or, wp_ite, wp_isin, wp_chain, isI_ty, isI_tb, isT_tt, wp_comp, wp_turn, wp_itS, wp_itR, wp_itZ, wp_itE, asIt_tup, asIt_l, wipe_nil, wipe_cons, tuple_l, len_tup, TQ_id, wp_for, List.length_set, wp_turnFor, List.map_cons, List.map_nil, List.length_cons, List.length_nil, List.cons_append, List.nil_append, List.replicate, Bool.not_true, Bool.not_false, Bool.and_self, Bool.true_and, Bool.and_true, Bool.false_and, Bool.and_false, decide_true, decide_false]
    refine ⟨is ++ [x - z], s4, by simp, by simp [hl], fun y hy => ?_, h4.mono (by omega), rfl⟩
    rcases List.mem_append.mp hy with hy | hy
    · exact hbn y hy
    · rw [List.mem_singleton.mp hy]; omega
  rintro acc M' ⟨zs, s4, rfl, hzl, hzb, h4, rfl⟩
  rw [rngLen] at hzl h4
  rw [add_tup (by simp; unfold line; omega)]
  simp only [wp_cons, wp_nil, wp_if, wb, wp_cmp, wp_idx, wp_var, wp_cst, getP_0, getP_s, optP_some, cop_lt, cop_le, cop_gt, cop_ge, cop_eq, cop_ne, isB_bl, wp_asg, wp_bin, wp_blt, wp_rsC, wp_rsN, bi_int, bi_intb, bi_abs, bi_max, bi_min, bi_gcd, bop_add, bop_sub, stl_d, stl_l, tgt_nm, tgt_tp, tgts_nil, tgts_cons, sets_nil, sets_cons, nxt_nx, nxt_rt, nxt_bk, nxt_ct, List.set_cons_succ, List.set_cons_zero, wp_rt, wp_rtN, wp_pass, wp_brk, wp_cont, finR_rt, finR_nx, wp_expr, wp_par, wp_call, wp_esC, wp_esN, wp_esS, wp_tup, wp_lst, wp_neg, isI_int, wp_nt, wp_and, wp_or, wp_ite, wp_isin, wp_chain, isI_ty, isI_tb, isT_tt, wp_comp, wp_turn, wp_itS, wp_itR, wp_itZ, wp_itE, asIt_tup, asIt_l, wipe_nil, wipe_cons, tuple_l, len_tup, TQ_id, wp_for, List.length_set, wp_turnFor, List.map_cons, List.map_nil, List.length_cons, List.length_nil, List.cons_append, List.nil_append, List.replicate, Bool.not_true, Bool.not_false, Bool.and_self, Bool.true_and, Bool.and_true, Bool.false_and, Bool.and_false, decide_true, decide_false]
  rw [show D.tup (D.int r :: zs.map D.int) = dI (r :: zs) from rfl]
  rw [bop_pow (by decide +kernel)]
  simp only [wp_cons, wp_nil, wp_if, wb, wp_cmp, wp_idx, wp_var, wp_cst, getP_0, getP_s, optP_some, cop_lt, cop_le, cop_gt, cop_ge, cop_eq, cop_ne, isB_bl, wp_asg, wp_bin, wp_blt, wp_rsC, wp_rsN, bi_int, bi_intb, bi_abs, bi_max, bi_min, bi_gcd, bop_add, bop_sub, stl_d, stl_l, tgt_nm, tgt_tp, tgts_nil, tgts_cons, sets_nil, sets_cons, nxt_nx, nxt_rt, nxt_bk, nxt_ct, List.set_cons_succ, List.set_cons_zero, wp_rt, wp_rtN, wp_pass, wp_brk, wp_cont, finR_rt, finR_nx, wp_expr, wp_par, wp_call, wp_esC, wp_esN, wp_esS, wp_tup, wp_lst, wp_neg, isI_int, wp_nt, wp_and, wp_or, wp_ite, wp_isin, wp_chain, isI_ty, isI_tb, isT_tt, wp_comp, wp_turn, wp_itS, wp_itR, wp_itZ, wp_itE, asIt_tup, asIt_l, wipe_nil, wipe_cons, tuple_l, len_tup, TQ_id, wp_for, List.length_set, wp_turnFor, List.map_cons, List.map_nil, List.length_cons, List.length_nil, List.cons_append, List.nil_append, List.replicate, Bool.not_true, Bool.not_false, Bool.and_self, Bool.true_and, Bool.and_true, Bool.false_and, Bool.and_false, decide_true, decide_false]
  refine ⟨by decide, ?_⟩
  refine pick hp h4 (by omega) (by simp) (by simp) (by simp [D.refsLt]) fun d s5 hd h5 => ?_
  obtain ⟨t, rfl, ht0, ht1⟩ : ∃ t : Int, d = .int t ∧ 0 < t ∧ t ≤ 10 ^ 9 := by
    simp only [List.mem_cons, List.not_mem_nil, or_false] at hd
    rcases hd with rfl | rfl | rfl <;> exact ⟨_, rfl, by decide +kernel, by decide +kernel⟩
  simp only [wp_cons, wp_nil, wp_if, wb, wp_cmp, wp_idx, wp_var, wp_cst, getP_0, getP_s, optP_some, cop_lt, cop_le, cop_gt, cop_ge, cop_eq, cop_ne, isB_bl, wp_asg, wp_bin, wp_blt, wp_rsC, wp_rsN, bi_int, bi_intb, bi_abs, bi_max, bi_min, bi_gcd, bop_add, bop_sub, stl_d, stl_l, tgt_nm, tgt_tp, tgts_nil, tgts_cons, sets_nil, sets_cons, nxt_nx, nxt_rt, nxt_bk, nxt_ct, List.set_cons_succ, List.set_cons_zero, wp_rt, wp_rtN, wp_pass, wp_brk, wp_cont, finR_rt, finR_nx, wp_expr, wp_par, wp_call, wp_esC, wp_esN, wp_esS, wp_tup, wp_lst, wp_neg, isI_int, wp_nt, wp_and, wp_or, wp_ite, wp_isin, wp_chain, isI_ty, isI_tb, isT_tt, wp_comp, wp_turn, wp_itS, wp_itR, wp_itZ, wp_itE, asIt_tup, asIt_l, wipe_nil, wipe_cons, tuple_l, len_tup, TQ_id, wp_for, List.length_set, wp_turnFor, List.map_cons, List.map_nil, List.length_cons, List.length_nil, List.cons_append, List.nil_append, List.replicate, Bool.not_true, Bool.not_false, Bool.and_self, Bool.true_and, Bool.and_true, Bool.false_and, Bool.and_false, decide_true, decide_false]
  refine draw hp h5 (by omega) ht0 (Bn.lt (b := 10 ^ 50) (by omega) (by omega) (by decide +kernel)) fun u s6 hu0 hu1 h6 => ?_
  simp only [wp_cons, wp_nil, wp_if, wb, wp_cmp, wp_idx, wp_var, wp_cst, getP_0, getP_s, optP_some, cop_lt, cop_le, cop_gt, cop_ge, cop_eq, cop_ne, isB_bl, wp_asg, wp_bin, wp_blt, wp_rsC, wp_rsN, bi_int, bi_intb, bi_abs, bi_max, bi_min, bi_gcd, bop_add, bop_sub, stl_d, stl_l, tgt_nm, tgt_tp, tgts_nil, tgts_cons, sets_nil, sets_cons, nxt_nx, nxt_rt, nxt_bk, nxt_ct, List.set_cons_succ, List.set_cons_zero, wp_rt, wp_rtN, wp_pass, wp_brk, wp_cont, finR_rt, finR_nx, wp_expr, wp_par, wp_call, wp_esC, wp_esN, wp_esS, wp_tup, wp_lst, wp_neg, isI_int, wp_nt, wp_and, wp_or, wp_ite, wp_isin, wp_chain, isI_ty, isI_tb, isT_tt, wp_comp, wp_turn, wp_itS, wp_itR, wp_itZ, wp_itE, asIt_tup, asIt_l, wipe_nil, wipe_cons, tuple_l, len_tup, TQ_id, wp_for, List.length_set, wp_turnFor, List.map_cons, List.map_nil, List.length_cons, List.length_nil, List.cons_append, List.nil_append, List.replicate, Bool.not_true, Bool.not_false, Bool.and_self, Bool.true_and, Bool.and_true, Bool.false_and, Bool.and_false, decide_true, decide_false]
  have hzB : ∀ x ∈ r :: zs, Bn 140 x := fun x hx => by
    refine Bn.of ?_ ?_ <;>
    · have : (10 : Int) ^ 40 ≤ (2 ^ 140 : Nat) := by decide +kernel
      have : (4 : Int) ≤ (2 ^ 140 : Nat) := by decide +kernel
      rcases List.mem_cons.mp hx with rfl | hx
      · omega
      · have := hzb x hx; omega
  have huB : Bn 40 (1 + u) := Bn.lt (b := 2000000000) (by omega) (by omega) (by decide)
  rw [show D.int r :: zs.map D.int = (r :: zs).map D.int from rfl, wp_compI (fun x => (1 + u) * x) (by simp; unfold line; omega) (fun x hx => ?_)]
  rotate_left
  · simp only [wp_cons, wp_nil, wp_if, wb, wp_cmp, wp_idx, wp_var, wp_cst, getP_0, getP_s, optP_some, cop_lt, cop_le, cop_gt, cop_ge, cop_eq, cop_ne, isB_bl, wp_asg, wp_bin, wp_blt, wp_rsC, wp_rsN, bi_int, bi_intb, bi_abs, bi_max, bi_min, bi_gcd, bop_add, bop_sub, stl_d, stl_l, tgt_nm, tgt_tp, tgts_nil, tgts_cons, sets_nil, sets_cons, nxt_nx, nxt_rt, nxt_bk, nxt_ct, List.set_cons_succ, List.set_cons_zero, wp_rt, wp_rtN, wp_pass, wp_brk, wp_cont, finR_rt, finR_nx, wp_expr, wp_par, wp_call, wp_esC, wp_esN, wp_esS, wp_tup, wp_lst, wp_neg, isI_int, wp_nt, wp_and, wp_or, wp_ite, wp_isin, wp_chain, isI_ty, isI_tb, isT_tt, wp_comp, wp_turn, wp_itS, wp_itR, wp_itZ, wp_itE, asIt_tup, asIt_l, wipe_nil, wipe_cons, tuple_l, len_tup, TQ_id, wp_for, List.length_set, wp_turnFor, List.map_cons, List.map_nil, List.length_cons, List.length_nil, List.cons_append, List.nil_append, List.replicate, Bool.not_true, Bool.not_false, Bool.and_self, Bool.true_and, Bool.and_true, Bool.false_and, Bool.and_false, decide_true, decide_false]
    rw [bop_mul (mulOk_of huB (hzB x hx) (by decide))]
    simp only [wp_cons, wp_nil, wp_if, wb, wp_cmp, wp_idx, wp_var, wp_cst, getP_0, getP_s, optP_some, cop_lt, cop_le, cop_gt, cop_ge, cop_eq, cop_ne, isB_bl, wp_asg, wp_bin, wp_blt, wp_rsC, wp_rsN, bi_int, bi_intb, bi_abs, bi_max, bi_min, bi_gcd, bop_add, bop_sub, stl_d, stl_l, tgt_nm, tgt_tp, tgts_nil, tgts_cons, sets_nil, sets_cons, nxt_nx, nxt_rt, nxt_bk, nxt_ct, List.set_cons_succ, List.set_cons_zero, wp_rt, wp_rtN, wp_pass, wp_brk, wp_cont, finR_rt, finR_nx, wp_expr, wp_par, wp_call, wp_esC, wp_esN, wp_esS, wp_tup, wp_lst, wp_neg, isI_int, wp_nt, wp_and, wp_or, wp_ite, wp_isin, wp_chain, isI_ty, isI_tb, isT_tt, wp_comp, wp_turn, wp_itS, wp_itR, wp_itZ, wp_itE, asIt_tup, asIt_l, wipe_nil, wipe_cons, tuple_l, len_tup, TQ_id, wp_for, List.length_set, wp_turnFor, List.map_cons, List.map_nil, List.length_cons, List.length_nil, List.cons_append, List.nil_append, List.replicate, Bool.not_true, Bool.not_false, Bool.and_self, Bool.true_and, Bool.and_true, Bool.false_and, Bool.and_false, decide_true, decide_false]
    exact ⟨trivial, trivial⟩
  rw [show ((r :: zs).map fun x => (1 + u) * x) = (1 + u) * r :: zs.map fun x => (1 + u) * x from rfl]
  have hVB : ∀ x ∈ (1 + u) * r :: zs.map fun x => (1 + u) * x, Bn 180 x := fun x hx => by
    have hx : x ∈ (r :: zs).map fun x => (1 + u) * x := hx
    obtain ⟨y, hy, rfl⟩ := List.mem_map.mp hx
    exact (huB.mul (hzB y hy)).mono (by decide)
  have hv0 : 0 ≤ (1 + u) * r := Int.mul_nonneg (by omega) hr0
  have hVl : (zs.map fun x => (1 + u) * x).length = zs.length := by simp
  have hVl2 : zs.length ≤ 14 := by omega
  generalize hV : (zs.map fun x => (1 + u) * x) = vs at *
  generalize (1 + u) * r = v at *
  rw [s10 (by simp; omega) hVB (by decide) hv0]
  simp only [wp_cons, wp_nil, wp_if, wb, wp_cmp, wp_idx, wp_var, wp_cst, getP_0, getP_s, optP_some, cop_lt, cop_le, cop_gt, cop_ge, cop_eq, cop_ne, isB_bl, wp_asg, wp_bin, wp_blt, wp_rsC, wp_rsN, bi_int, bi_intb, bi_abs, bi_max, bi_min, bi_gcd, bop_add, bop_sub, stl_d, stl_l, tgt_nm, tgt_tp, tgts_nil, tgts_cons, sets_nil, sets_cons, nxt_nx, nxt_rt, nxt_bk, nxt_ct, List.set_cons_succ, List.set_cons_zero, wp_rt, wp_rtN, wp_pass, wp_brk, wp_cont, finR_rt, finR_nx, wp_expr, wp_par, wp_call, wp_esC, wp_esN, wp_esS, wp_tup, wp_lst, wp_neg, isI_int, wp_nt, wp_and, wp_or, wp_ite, wp_isin, wp_chain, isI_ty, isI_tb, isT_tt, wp_comp, wp_turn, wp_itS, wp_itR, wp_itZ, wp_itE, asIt_tup, asIt_l, wipe_nil, wipe_cons, tuple_l, len_tup, TQ_id, wp_for, List.length_set, wp_turnFor, List.length_cons, List.length_nil, List.cons_append, List.nil_append, List.replicate, Bool.not_true, Bool.not_false, Bool.and_self, Bool.true_and, Bool.and_true, Bool.false_and, Bool.and_false, decide_true, decide_false]
  rw [s16 (by simp; omega) fun x hx => (hVB x hx).mono (by decide)]
  simp only [wp_cons, wp_nil, wp_if, wb, wp_cmp, wp_idx, wp_var, wp_cst, getP_0, getP_s, optP_some, cop_lt, cop_le, cop_gt, cop_ge, cop_eq, cop_ne, isB_bl, wp_asg, wp_bin, wp_blt, wp_rsC, wp_rsN, bi_int, bi_intb, bi_abs, bi_max, bi_min, bi_gcd, bop_add, bop_sub, stl_d, stl_l, tgt_nm, tgt_tp, tgts_nil, tgts_cons, sets_nil, sets_cons, nxt_nx, nxt_rt, nxt_bk, nxt_ct, List.set_cons_succ, List.set_cons_zero, wp_rt, wp_rtN, wp_pass, wp_brk, wp_cont, finR_rt, finR_nx, wp_expr, wp_par, wp_call, wp_esC, wp_esN, wp_esS, wp_tup, wp_lst, wp_neg, isI_int, wp_nt, wp_and, wp_or, wp_ite, wp_isin, wp_chain, isI_ty, isI_tb, isT_tt, wp_comp, wp_turn, wp_itS, wp_itR, wp_itZ, wp_itE, asIt_tup, asIt_l, wipe_nil, wipe_cons, tuple_l, len_tup, TQ_id, wp_for, List.length_set, wp_turnFor, List.length_cons, List.length_nil, List.cons_append, List.nil_append, List.replicate, Bool.not_true, Bool.not_false, Bool.and_self, Bool.true_and, Bool.and_true, Bool.false_and, Bool.and_false, decide_true, decide_false]
  refine ⟨by decide, ?_⟩
  obtain ⟨j, js, eL, hj0, hjl, hjB⟩ := low_cons (vs := vs) hv0
  have hjB := hjB 180 hVB
  have hgB := gl_bn hVB
  by_cases hg0 : gl (v :: vs) = 0
  · rw [show decide (((gl (v :: vs) : Nat) : Int) = 0) = true from decide_eq_true (by omega)]
    have : low (v :: vs) = v :: vs := by
      unfold low
      rw [if_neg (by omega)]
    rw [this, show (D.tup ((v :: vs).map D.int)) = dI (v :: vs) from rfl, eq_tup]
    simp only [wp_cons, wp_nil, wp_if, wb, wp_cmp, wp_idx, wp_var, wp_cst, getP_0, getP_s, optP_some, cop_lt, cop_le, cop_gt, cop_ge, cop_eq, cop_ne, isB_bl, wp_asg, wp_bin, wp_blt, wp_rsC, wp_rsN, bi_int, bi_intb, bi_abs, bi_max, bi_min, bi_gcd, bop_add, bop_sub, stl_d, stl_l, tgt_nm, tgt_tp, tgts_nil, tgts_cons, sets_nil, sets_cons, nxt_nx, nxt_rt, nxt_bk, nxt_ct, List.set_cons_succ, List.set_cons_zero, wp_rt, wp_rtN, wp_pass, wp_brk, wp_cont, finR_rt, finR_nx, wp_expr, wp_par, wp_call, wp_esC, wp_esN, wp_esS, wp_tup, wp_lst, wp_neg, isI_int, wp_nt, wp_and, wp_or, wp_ite, wp_isin, wp_chain, isI_ty, isI_tb, isT_tt, wp_comp, wp_turn, wp_itS, wp_itR, wp_itZ, wp_itE, asIt_tup, asIt_l, wipe_nil, wipe_cons, tuple_l, len_tup, TQ_id, wp_for, List.length_set, wp_turnFor, List.length_cons, List.length_nil, List.cons_append, List.nil_append, List.replicate, Bool.not_true, Bool.not_false, Bool.and_self, Bool.true_and, Bool.and_true, Bool.false_and, Bool.and_false, decide_true, decide_false]
    exact q s6 (h6.mono (by omega))
  rw [show decide (((gl (v :: vs) : Nat) : Int) = 0) = false from decide_eq_false (by omega)]
  have f1 := low_back (v :: vs) hg0
  have f2 := gl_low (v :: vs) hg0
  have f3 := low_low (v :: vs) hg0
  rw [eL] at f1 f2 f3
  rw [eL]
  generalize hG : gl (v :: vs) = g at *
  simp only [wp_cons, wp_nil, wp_if, wb, wp_cmp, wp_idx, wp_var, wp_cst, getP_0, getP_s, optP_some, cop_lt, cop_le, cop_gt, cop_ge, cop_eq, cop_ne, isB_bl, wp_asg, wp_bin, wp_blt, wp_rsC, wp_rsN, bi_int, bi_intb, bi_abs, bi_max, bi_min, bi_gcd, bop_add, bop_sub, stl_d, stl_l, tgt_nm, tgt_tp, tgts_nil, tgts_cons, sets_nil, sets_cons, nxt_nx, nxt_rt, nxt_bk, nxt_ct, List.set_cons_succ, List.set_cons_zero, wp_rt, wp_rtN, wp_pass, wp_brk, wp_cont, finR_rt, finR_nx, wp_expr, wp_par, wp_call, wp_esC, wp_esN, wp_esS, wp_tup, wp_lst, wp_neg, isI_int, wp_nt, wp_and, wp_or, wp_ite, wp_isin, wp_chain, isI_ty, isI_tb, isT_tt, wp_comp, wp_turn, wp_itS, wp_itR, wp_itZ, wp_itE, asIt_tup, asIt_l, wipe_nil, wipe_cons, tuple_l, len_tup, TQ_id, wp_for, List.length_set, wp_turnFor, List.length_cons, List.length_nil, List.cons_append, List.nil_append, List.replicate, Bool.not_true, Bool.not_false, Bool.and_self, Bool.true_and, Bool.and_true, Bool.false_and, Bool.and_false, decide_true, decide_false]
  rw [wp_compI (fun x => (g : Int) * x) (by simp; unfold line; omega) (fun x hx => ?_)]
  rotate_left
  · simp only [wp_cons, wp_nil, wp_if, wb, wp_cmp, wp_idx, wp_var, wp_cst, getP_0, getP_s, optP_some, cop_lt, cop_le, cop_gt, cop_ge, cop_eq, cop_ne, isB_bl, wp_asg, wp_bin, wp_blt, wp_rsC, wp_rsN, bi_int, bi_intb, bi_abs, bi_max, bi_min, bi_gcd, bop_add, bop_sub, stl_d, stl_l, tgt_nm, tgt_tp, tgts_nil, tgts_cons, sets_nil, sets_cons, nxt_nx, nxt_rt, nxt_bk, nxt_ct, List.set_cons_succ, List.set_cons_zero, wp_rt, wp_rtN, wp_pass, wp_brk, wp_cont, finR_rt, finR_nx, wp_expr, wp_par, wp_call, wp_esC, wp_esN, wp_esS, wp_tup, wp_lst, wp_neg, isI_int, wp_nt, wp_and, wp_or, wp_ite, wp_isin, wp_chain, isI_ty, isI_tb, isT_tt, wp_comp, wp_turn, wp_itS, wp_itR, wp_itZ, wp_itE, asIt_tup, asIt_l, wipe_nil, wipe_cons, tuple_l, len_tup, TQ_id, wp_for, List.length_set, wp_turnFor, List.length_cons, List.length_nil, List.cons_append, List.nil_append, List.replicate, Bool.not_true, Bool.not_false, Bool.and_self, Bool.true_and, Bool.and_true, Bool.false_and, Bool.and_false, decide_true, decide_false]
    rw [bop_mul (mulOk_of hgB (hjB x hx) (by decide))]
    simp only [wp_cons, wp_nil, wp_if, wb, wp_cmp, wp_idx, wp_var, wp_cst, getP_0, getP_s, optP_some, cop_lt, cop_le, cop_gt, cop_ge, cop_eq, cop_ne, isB_bl, wp_asg, wp_bin, wp_blt, wp_rsC, wp_rsN, bi_int, bi_intb, bi_abs, bi_max, bi_min, bi_gcd, bop_add, bop_sub, stl_d, stl_l, tgt_nm, tgt_tp, tgts_nil, tgts_cons, sets_nil, sets_cons, nxt_nx, nxt_rt, nxt_bk, nxt_ct, List.set_cons_succ, List.set_cons_zero, wp_rt, wp_rtN, wp_pass, wp_brk, wp_cont, finR_rt, finR_nx, wp_expr, wp_par, wp_call, wp_esC, wp_esN, wp_esS, wp_tup, wp_lst, wp_neg, isI_int, wp_nt, wp_and, wp_or, wp_ite, wp_isin, wp_chain, isI_ty, isI_tb, isT_tt, wp_comp, wp_turn, wp_itS, wp_itR, wp_itZ, wp_itE, asIt_tup, asIt_l, wipe_nil, wipe_cons, tuple_l, len_tup, TQ_id, wp_for, List.length_set, wp_turnFor, List.length_cons, List.length_nil, List.cons_append, List.nil_append, List.replicate, Bool.not_true, Bool.not_false, Bool.and_self, Bool.true_and, Bool.and_true, Bool.false_and, Bool.and_false, decide_true, decide_false]
    exact ⟨trivial, trivial⟩
  rw [f1]
  rw [ne_tup, decide_eq_true rfl]
  simp only [wp_cons, wp_nil, wp_if, wb, wp_cmp, wp_idx, wp_var, wp_cst, getP_0, getP_s, optP_some, cop_lt, cop_le, cop_gt, cop_ge, cop_eq, cop_ne, isB_bl, wp_asg, wp_bin, wp_blt, wp_rsC, wp_rsN, bi_int, bi_intb, bi_abs, bi_max, bi_min, bi_gcd, bop_add, bop_sub, stl_d, stl_l, tgt_nm, tgt_tp, tgts_nil, tgts_cons, sets_nil, sets_cons, nxt_nx, nxt_rt, nxt_bk, nxt_ct, List.set_cons_succ, List.set_cons_zero, wp_rt, wp_rtN, wp_pass, wp_brk, wp_cont, finR_rt, finR_nx, wp_expr, wp_par, wp_call, wp_esC, wp_esN, wp_esS, wp_tup, wp_lst, wp_neg, isI_int, wp_nt, wp_and, wp_or, wp_ite, wp_isin, wp_chain, isI_ty, isI_tb, isT_tt, wp_comp, wp_turn, wp_itS, wp_itR, wp_itZ, wp_itE, asIt_tup, asIt_l, wipe_nil, wipe_cons, tuple_l, len_tup, TQ_id, wp_for, List.length_set, wp_turnFor, List.length_cons, List.length_nil, List.cons_append, List.nil_append, List.replicate, Bool.not_true, Bool.not_false, Bool.and_self, Bool.true_and, Bool.and_true, Bool.false_and, Bool.and_false, decide_true, decide_false]
  rw [s16 (by simp; omega) fun x hx => (hjB x hx).mono (by decide), f2]
  simp only [wp_cons, wp_nil, wp_if, wb, wp_cmp, wp_idx, wp_var, wp_cst, getP_0, getP_s, optP_some, cop_lt, cop_le, cop_gt, cop_ge, cop_eq, cop_ne, isB_bl, wp_asg, wp_bin, wp_blt, wp_rsC, wp_rsN, bi_int, bi_intb, bi_abs, bi_max, bi_min, bi_gcd, bop_add, bop_sub, stl_d, stl_l, tgt_nm, tgt_tp, tgts_nil, tgts_cons, sets_nil, sets_cons, nxt_nx, nxt_rt, nxt_bk, nxt_ct, List.set_cons_succ, List.set_cons_zero, wp_rt, wp_rtN, wp_pass, wp_brk, wp_cont, finR_rt, finR_nx, wp_expr, wp_par, wp_call, wp_esC, wp_esN, wp_esS, wp_tup, wp_lst, wp_neg, isI_int, wp_nt, wp_and, wp_or, wp_ite, wp_isin, wp_chain, isI_ty, isI_tb, isT_tt, wp_comp, wp_turn, wp_itS, wp_itR, wp_itZ, wp_itE, asIt_tup, asIt_l, wipe_nil, wipe_cons, tuple_l, len_tup, TQ_id, wp_for, List.length_set, wp_turnFor, List.length_cons, List.length_nil, List.cons_append, List.nil_append, List.replicate, Bool.not_true, Bool.not_false, Bool.and_self, Bool.true_and, Bool.and_true, Bool.false_and, Bool.and_false, decide_true, decide_false]
  rw [decide_eq_true (by rfl)]
  simp only [wp_cons, wp_nil, wp_if, wb, wp_cmp, wp_idx, wp_var, wp_cst, getP_0, getP_s, optP_some, cop_lt, cop_le, cop_gt, cop_ge, cop_eq, cop_ne, isB_bl, wp_asg, wp_bin, wp_blt, wp_rsC, wp_rsN, bi_int, bi_intb, bi_abs, bi_max, bi_min, bi_gcd, bop_add, bop_sub, stl_d, stl_l, tgt_nm, tgt_tp, tgts_nil, tgts_cons, sets_nil, sets_cons, nxt_nx, nxt_rt, nxt_bk, nxt_ct, List.set_cons_succ, List.set_cons_zero, wp_rt, wp_rtN, wp_pass, wp_brk, wp_cont, finR_rt, finR_nx, wp_expr, wp_par, wp_call, wp_esC, wp_esN, wp_esS, wp_tup, wp_lst, wp_neg, isI_int, wp_nt, wp_and, wp_or, wp_ite, wp_isin, wp_chain, isI_ty, isI_tb, isT_tt, wp_comp, wp_turn, wp_itS, wp_itR, wp_itZ, wp_itE, asIt_tup, asIt_l, wipe_nil, wipe_cons, tuple_l, len_tup, TQ_id, wp_for, List.length_set, wp_turnFor, List.length_cons, List.length_nil, List.cons_append, List.nil_append, List.replicate, Bool.not_true, Bool.not_false, Bool.and_self, Bool.true_and, Bool.and_true, Bool.false_and, Bool.and_false, decide_true, decide_false]
  rw [s10 (by simp; omega) hjB (by decide) hj0, f3]
  simp only [wp_cons, wp_nil, wp_if, wb, wp_cmp, wp_idx, wp_var, wp_cst, getP_0, getP_s, optP_some, cop_lt, cop_le, cop_gt, cop_ge, cop_eq, cop_ne, isB_bl, wp_asg, wp_bin, wp_blt, wp_rsC, wp_rsN, bi_int, bi_intb, bi_abs, bi_max, bi_min, bi_gcd, bop_add, bop_sub, stl_d, stl_l, tgt_nm, tgt_tp, tgts_nil, tgts_cons, sets_nil, sets_cons, nxt_nx, nxt_rt, nxt_bk, nxt_ct, List.set_cons_succ, List.set_cons_zero, wp_rt, wp_rtN, wp_pass, wp_brk, wp_cont, finR_rt, finR_nx, wp_expr, wp_par, wp_call, wp_esC, wp_esN, wp_esS, wp_tup, wp_lst, wp_neg, isI_int, wp_nt, wp_and, wp_or, wp_ite, wp_isin, wp_chain, isI_ty, isI_tb, isT_tt, wp_comp, wp_turn, wp_itS, wp_itR, wp_itZ, wp_itE, asIt_tup, asIt_l, wipe_nil, wipe_cons, tuple_l, len_tup, TQ_id, wp_for, List.length_set, wp_turnFor, List.length_cons, List.length_nil, List.cons_append, List.nil_append, List.replicate, Bool.not_true, Bool.not_false, Bool.and_self, Bool.true_and, Bool.and_true, Bool.false_and, Bool.and_false, decide_true, decide_false]
  rw [ne_tup, decide_eq_true rfl]
  simp only [wp_cons, wp_nil, wp_if, wb, wp_cmp, wp_idx, wp_var, wp_cst, getP_0, getP_s, optP_some, cop_lt, cop_le, cop_gt, cop_ge, cop_eq, cop_ne, isB_bl, wp_asg, wp_bin, wp_blt, wp_rsC, wp_rsN, bi_int, bi_intb, bi_abs, bi_max, bi_min, bi_gcd, bop_add, bop_sub, stl_d, stl_l, tgt_nm, tgt_tp, tgts_nil, tgts_cons, sets_nil, sets_cons, nxt_nx, nxt_rt, nxt_bk, nxt_ct, List.set_cons_succ, List.set_cons_zero, wp_rt, wp_rtN, wp_pass, wp_brk, wp_cont, finR_rt, finR_nx, wp_expr, wp_par, wp_call, wp_esC, wp_esN, wp_esS, wp_tup, wp_lst, wp_neg, isI_int, wp_nt, wp_and, wp_or, wp_ite, wp_isin, wp_chain, isI_ty, isI_tb, isT_tt, wp_comp, wp_turn, wp_itS, wp_itR, wp_itZ, wp_itE, asIt_tup, asIt_l, wipe_nil, wipe_cons, tuple_l, len_tup, TQ_id, wp_for, List.length_set, wp_turnFor, List.length_cons, List.length_nil, List.cons_append, List.nil_append, List.replicate, Bool.not_true, Bool.not_false, Bool.and_self, Bool.true_and, Bool.and_true, Bool.false_and, Bool.and_false, decide_true, decide_false]
  refine s15 hp h6 (by omega) hm0 (by omega) (by decide) (by decide) fun is s7 hil hib h7 => ?_
  refine TQ_same (by simp) ?_
  obtain ⟨i0, is', rfl⟩ : ∃ i0 is', is = i0 :: is' := by
    cases is with
    | nil => simp at hil; omega
    | cons a b => exact ⟨a, b, rfl⟩
  simp only [List.length_cons] at hil
  have hsh := short_of (is := i0 :: is') fun i hi => by have := hib i hi; omega
  have hsh2 := short_of (is := opp (i0 :: is')) fun i hi => by have := opp_bd (a := 99) (by decide) hib i hi; omega
  simp only [wp_cons, wp_nil, wp_if, wb, wp_cmp, wp_idx, wp_var, wp_cst, getP_0, getP_s, optP_some, cop_lt, cop_le, cop_gt, cop_ge, cop_eq, cop_ne, isB_bl, wp_asg, wp_bin, wp_blt, wp_rsC, wp_rsN, bi_int, bi_intb, bi_abs, bi_max, bi_min, bi_gcd, bop_add, bop_sub, stl_d, stl_l, tgt_nm, tgt_tp, tgts_nil, tgts_cons, sets_nil, sets_cons, nxt_nx, nxt_rt, nxt_bk, nxt_ct, List.set_cons_succ, List.set_cons_zero, wp_rt, wp_rtN, wp_pass, wp_brk, wp_cont, finR_rt, finR_nx, wp_expr, wp_par, wp_call, wp_esC, wp_esN, wp_esS, wp_tup, wp_lst, wp_neg, isI_int, wp_nt, wp_and, wp_or, wp_ite, wp_isin, wp_chain, isI_ty, isI_tb, isT_tt, wp_comp, wp_turn, wp_itS, wp_itR, wp_itZ, wp_itE, asIt_tup, asIt_l, wipe_nil, wipe_cons, tuple_l, len_tup, TQ_id, wp_for, List.length_set, wp_turnFor, List.length_cons, List.length_nil, List.cons_append, List.nil_append, List.replicate, Bool.not_true, Bool.not_false, Bool.and_self, Bool.true_and, Bool.and_true, Bool.false_and, Bool.and_false, decide_true, decide_false]
  rw [s9 (by simp) (by simp; omega) hsh (by simp; omega) hVB (by decide) hv0]
  simp only [wp_cons, wp_nil, wp_if, wb, wp_cmp, wp_idx, wp_var, wp_cst, getP_0, getP_s, optP_some, cop_lt, cop_le, cop_gt, cop_ge, cop_eq, cop_ne, isB_bl, wp_asg, wp_bin, wp_blt, wp_rsC, wp_rsN, bi_int, bi_intb, bi_abs, bi_max, bi_min, bi_gcd, bop_add, bop_sub, stl_d, stl_l, tgt_nm, tgt_tp, tgts_nil, tgts_cons, sets_nil, sets_cons, nxt_nx, nxt_rt, nxt_bk, nxt_ct, List.set_cons_succ, List.set_cons_zero, wp_rt, wp_rtN, wp_pass, wp_brk, wp_cont, finR_rt, finR_nx, wp_expr, wp_par, wp_call, wp_esC, wp_esN, wp_esS, wp_tup, wp_lst, wp_neg, isI_int, wp_nt, wp_and, wp_or, wp_ite, wp_isin, wp_chain, isI_ty, isI_tb, isT_tt, wp_comp, wp_turn, wp_itS, wp_itR, wp_itZ, wp_itE, asIt_tup, asIt_l, wipe_nil, wipe_cons, tuple_l, len_tup, TQ_id, wp_for, List.length_set, wp_turnFor, List.length_cons, List.length_nil, List.cons_append, List.nil_append, List.replicate, Bool.not_true, Bool.not_false, Bool.and_self, Bool.true_and, Bool.and_true, Bool.false_and, Bool.and_false, decide_true, decide_false]
  rw [s9 (by simp) (by simp; omega) hsh (by simp; omega) hjB (by decide) hj0]
  simp only [wp_cons, wp_nil, wp_if, wb, wp_cmp, wp_idx, wp_var, wp_cst, getP_0, getP_s, optP_some, cop_lt, cop_le, cop_gt, cop_ge, cop_eq, cop_ne, isB_bl, wp_asg, wp_bin, wp_blt, wp_rsC, wp_rsN, bi_int, bi_intb, bi_abs, bi_max, bi_min, bi_gcd, bop_add, bop_sub, stl_d, stl_l, tgt_nm, tgt_tp, tgts_nil, tgts_cons, sets_nil, sets_cons, nxt_nx, nxt_rt, nxt_bk, nxt_ct, List.set_cons_succ, List.set_cons_zero, wp_rt, wp_rtN, wp_pass, wp_brk, wp_cont, finR_rt, finR_nx, wp_expr, wp_par, wp_call, wp_esC, wp_esN, wp_esS, wp_tup, wp_lst, wp_neg, isI_int, wp_nt, wp_and, wp_or, wp_ite, wp_isin, wp_chain, isI_ty, isI_tb, isT_tt, wp_comp, wp_turn, wp_itS, wp_itR, wp_itZ, wp_itE, asIt_tup, asIt_l, wipe_nil, wipe_cons, tuple_l, len_tup, TQ_id, wp_for, List.length_set, wp_turnFor, List.length_cons, List.length_nil, List.cons_append, List.nil_append, List.replicate, Bool.not_true, Bool.not_false, Bool.and_self, Bool.true_and, Bool.and_true, Bool.false_and, Bool.and_false, decide_true, decide_false]
  have hdb : Bn 300 (dot (i0 :: is') (j :: js)) := by
    have := dot_bn (a := 99) (b := 2 ^ 180) (by decide) (by decide +kernel) (i0 :: is') (j :: js) hib fun x hx => by
      have := hjB x hx
      unfold Bn at this
      omega
    simp only [List.length_cons] at this
    have h15 : ((is'.length + 1 : Nat) : Int) ≤ 15 := by omega
    have h0 : (0 : Int) ≤ ((is'.length + 1 : Nat) : Int) := by omega
    generalize ((is'.length + 1 : Nat) : Int) = w at *
    have : (99 : Int) * 2 ^ 180 * 15 ≤ (2 ^ 300 : Nat) := by decide +kernel
    refine Bn.of ?_ ?_ <;> omega
  rw [bop_mul (mulOk_of hgB hdb (by decide))]
  rw [show dot (i0 :: is') (v :: vs) = (g : Int) * dot (i0 :: is') (j :: js) from by rw [← f1, dot_mul]]
  simp only [wp_cons, wp_nil, wp_if, wb, wp_cmp, wp_idx, wp_var, wp_cst, getP_0, getP_s, optP_some, cop_lt, cop_le, cop_gt, cop_ge, cop_eq, cop_ne, isB_bl, wp_asg, wp_bin, wp_blt, wp_rsC, wp_rsN, bi_int, bi_intb, bi_abs, bi_max, bi_min, bi_gcd, bop_add, bop_sub, stl_d, stl_l, tgt_nm, tgt_tp, tgts_nil, tgts_cons, sets_nil, sets_cons, nxt_nx, nxt_rt, nxt_bk, nxt_ct, List.set_cons_succ, List.set_cons_zero, wp_rt, wp_rtN, wp_pass, wp_brk, wp_cont, finR_rt, finR_nx, wp_expr, wp_par, wp_call, wp_esC, wp_esN, wp_esS, wp_tup, wp_lst, wp_neg, isI_int, wp_nt, wp_and, wp_or, wp_ite, wp_isin, wp_chain, isI_ty, isI_tb, isT_tt, wp_comp, wp_turn, wp_itS, wp_itR, wp_itZ, wp_itE, asIt_tup, asIt_l, wipe_nil, wipe_cons, tuple_l, len_tup, TQ_id, wp_for, List.length_set, wp_turnFor, List.length_cons, List.length_nil, List.cons_append, List.nil_append, List.replicate, Bool.not_true, Bool.not_false, Bool.and_self, Bool.true_and, Bool.and_true, Bool.false_and, Bool.and_false, decide_true, decide_false]
  rw [s11 (by simp; omega) hsh]
  simp only [wp_cons, wp_nil, wp_if, wb, wp_cmp, wp_idx, wp_var, wp_cst, getP_0, getP_s, optP_some, cop_lt, cop_le, cop_gt, cop_ge, cop_eq, cop_ne, isB_bl, wp_asg, wp_bin, wp_blt, wp_rsC, wp_rsN, bi_int, bi_intb, bi_abs, bi_max, bi_min, bi_gcd, bop_add, bop_sub, stl_d, stl_l, tgt_nm, tgt_tp, tgts_nil, tgts_cons, sets_nil, sets_cons, nxt_nx, nxt_rt, nxt_bk, nxt_ct, List.set_cons_succ, List.set_cons_zero, wp_rt, wp_rtN, wp_pass, wp_brk, wp_cont, finR_rt, finR_nx, wp_expr, wp_par, wp_call, wp_esC, wp_esN, wp_esS, wp_tup, wp_lst, wp_neg, isI_int, wp_nt, wp_and, wp_or, wp_ite, wp_isin, wp_chain, isI_ty, isI_tb, isT_tt, wp_comp, wp_turn, wp_itS, wp_itR, wp_itZ, wp_itE, asIt_tup, asIt_l, wipe_nil, wipe_cons, tuple_l, len_tup, TQ_id, wp_for, List.length_set, wp_turnFor, List.length_cons, List.length_nil, List.cons_append, List.nil_append, List.replicate, Bool.not_true, Bool.not_false, Bool.and_self, Bool.true_and, Bool.and_true, Bool.false_and, Bool.and_false, decide_true, decide_false]
  rw [show dI (opp (i0 :: is')) = dI ((-i0 - 1) :: is'.map fun j => -j) from rfl, s11 (by simp; omega) hsh2]
  simp only [wp_cons, wp_nil, wp_if, wb, wp_cmp, wp_idx, wp_var, wp_cst, getP_0, getP_s, optP_some, cop_lt, cop_le, cop_gt, cop_ge, cop_eq, cop_ne, isB_bl, wp_asg, wp_bin, wp_blt, wp_rsC, wp_rsN, bi_int, bi_intb, bi_abs, bi_max, bi_min, bi_gcd, bop_add, bop_sub, stl_d, stl_l, tgt_nm, tgt_tp, tgts_nil, tgts_cons, sets_nil, sets_cons, nxt_nx, nxt_rt, nxt_bk, nxt_ct, List.set_cons_succ, List.set_cons_zero, wp_rt, wp_rtN, wp_pass, wp_brk, wp_cont, finR_rt, finR_nx, wp_expr, wp_par, wp_call, wp_esC, wp_esN, wp_esS, wp_tup, wp_lst, wp_neg, isI_int, wp_nt, wp_and, wp_or, wp_ite, wp_isin, wp_chain, isI_ty, isI_tb, isT_tt, wp_comp, wp_turn, wp_itS, wp_itR, wp_itZ, wp_itE, asIt_tup, asIt_l, wipe_nil, wipe_cons, tuple_l, len_tup, TQ_id, wp_for, List.length_set, wp_turnFor, List.length_cons, List.length_nil, List.cons_append, List.nil_append, List.replicate, Bool.not_true, Bool.not_false, Bool.and_self, Bool.true_and, Bool.and_true, Bool.false_and, Bool.and_false, decide_true, decide_false]
  rw [show opp ((-i0 - 1) :: is'.map fun j => -j) = i0 :: is' from opp_opp (i0 :: is'), ne_tup]
  simp only [wp_cons, wp_nil, wp_if, wb, wp_cmp, wp_idx, wp_var, wp_cst, getP_0, getP_s, optP_some, cop_lt, cop_le, cop_gt, cop_ge, cop_eq, cop_ne, isB_bl, wp_asg, wp_bin, wp_blt, wp_rsC, wp_rsN, bi_int, bi_intb, bi_abs, bi_max, bi_min, bi_gcd, bop_add, bop_sub, stl_d, stl_l, tgt_nm, tgt_tp, tgts_nil, tgts_cons, sets_nil, sets_cons, nxt_nx, nxt_rt, nxt_bk, nxt_ct, List.set_cons_succ, List.set_cons_zero, wp_rt, wp_rtN, wp_pass, wp_brk, wp_cont, finR_rt, finR_nx, wp_expr, wp_par, wp_call, wp_esC, wp_esN, wp_esS, wp_tup, wp_lst, wp_neg, isI_int, wp_nt, wp_and, wp_or, wp_ite, wp_isin, wp_chain, isI_ty, isI_tb, isT_tt, wp_comp, wp_turn, wp_itS, wp_itR, wp_itZ, wp_itE, asIt_tup, asIt_l, wipe_nil, wipe_cons, tuple_l, len_tup, TQ_id, wp_for, List.length_set, wp_turnFor, List.length_cons, List.length_nil, List.cons_append, List.nil_append, List.replicate, Bool.not_true, Bool.not_false, Bool.and_self, Bool.true_and, Bool.and_true, Bool.false_and, Bool.and_false, decide_true, decide_false]
  rw [rng1 (by unfold small62; simp; omega)]
  simp only [wp_cons, wp_nil, wp_if, wb, wp_cmp, wp_idx, wp_var, wp_cst, getP_0, getP_s, optP_some, cop_lt, cop_le, cop_gt, cop_ge, cop_eq, cop_ne, isB_bl, wp_asg, wp_bin, wp_blt, wp_rsC, wp_rsN, bi_int, bi_intb, bi_abs, bi_max, bi_min, bi_gcd, bop_add, bop_sub, stl_d, stl_l, tgt_nm, tgt_tp, tgts_nil, tgts_cons, sets_nil, sets_cons, nxt_nx, nxt_rt, nxt_bk, nxt_ct, List.set_cons_succ, List.set_cons_zero, wp_rt, wp_rtN, wp_pass, wp_brk, wp_cont, finR_rt, finR_nx, wp_expr, wp_par, wp_call, wp_esC, wp_esN, wp_esS, wp_tup, wp_lst, wp_neg, isI_int, wp_nt, wp_and, wp_or, wp_ite, wp_isin, wp_chain, isI_ty, isI_tb, isT_tt, wp_comp, wp_turn, wp_itS, wp_itR, wp_itZ, wp_itE, asIt_tup, asIt_l, wipe_nil, wipe_cons, tuple_l, len_tup, TQ_id, wp_for, List.length_set, wp_turnFor, List.length_cons, List.length_nil, List.cons_append, List.nil_append, List.replicate, Bool.not_true, Bool.not_false, Bool.and_self, Bool.true_and, Bool.and_true, Bool.false_and, Bool.and_false, decide_true, decide_false]
  refine wp_compSt (fun i acc M' => ∃ (is : List Int) (s' : Sp), acc = is.map D.int ∧ is.length = i ∧ (∀ i ∈ is, -10 ≤ i ∧ i ≤ 10) ∧ SpOk (n + 3 + m.toNat + 1 + 1 + 1000 + i) s' ∧ M' = B.set p (spO s')) (by rw [rngLen]; unfold line; omega) ⟨[], s7, rfl, rfl, by simp, h7, rfl⟩ ?_ ?_
  · rintro i d acc M' hd _ ⟨is, s', rfl, hl, hbn, hs', rfl⟩
    have hi : i < m.toNat := by
      have := (List.getElem?_eq_some_iff.mp hd).1
      rwa [rngLen] at this
    simp only [wp_cons, wp_nil, wp_if, wb, wp_cmp, wp_idx, wp_var, wp_cst, getP_0, getP_s, optP_some, cop_lt, cop_le, cop_gt, cop_ge, cop_eq, cop_ne, isB_bl, wp_asg, wp_bin, wp_blt, wp_rsC, wp_rsN, bi_int, bi_intb, bi_abs, bi_max, bi_min, bi_gcd, bop_add, bop_sub, stl_d, stl_l, tgt_nm, tgt_tp, tgts_nil, tgts_cons, sets_nil, sets_cons, nxt_nx, nxt_rt, nxt_bk, nxt_ct, List.set_cons_succ, List.set_cons_zero, wp_rt, wp_rtN, wp_pass, wp_brk, wp_cont, finR_rt, finR_nx, wp_expr, wp_par, wp_call, wp_esC, wp_esN, wp_esS, wp_tup, wp_lst, wp_neg, isI_int, wp_nt, wp_and, wp_or, wp_ite, wp_isin, wp_chain, isI_ty, isI_tb, isT_tt, wp_comp, wp_turn, wp_itS, wp_itR, wp_itZ, wp_itE, asIt_tup, asIt_l, wipe_nil, wipe_cons, tuple_l, len_tup, TQ_id, wp_for, List.length_set, wp_turnFor, List.length_cons, List.length_nil, List.cons_append, List.nil_append, List.replicate, Bool.not_true, Bool.not_false, Bool.and_self, Bool.true_and, Bool.and_true, Bool.false_and, Bool.and_false, decide_true, decide_false]
    refine draw hp hs' (by omega) (by omega) (Bn.mono (m := 40) (by unfold Bn; decide) (by decide)) fun x s4 hx0 hx1 h4 => ?_
    simp only [wp_cons, wp_nil, wp_if, wb, wp_cmp, wp_idx, wp_var, wp_cst, getP_0, getP_s, optP_some, cop_lt, cop_le, cop_gt, cop_ge, cop_eq, cop_ne, isB_bl, wp_asg, wp_bin, wp_blt, wp_rsC, wp_rsN, bi_int, bi_intb, bi_abs, bi_max, bi_min, bi_gcd, bop_add, bop_sub, stl_d, stl_l, tgt_nm, tgt_tp, tgts_nil, tgts_cons, sets_nil, sets_cons, nxt_nx, nxt_rt, nxt_bk, nxt_ct, List.set_cons_succ, List.set_cons_zero, wp_rt, wp_rtN, wp_pass, wp_brk, wp_cont, finR_rt, finR_nx, wp_expr, wp_par, wp_call, wp_esC, wp_esN, wp_esS, wp_tup, wp_lst, wp_neg, isI_int, wp_nt, wp_and, wp_or, wp_ite, wp_isin, wp_chain, isI_ty, isI_tb, isT_tt, wp_comp, wp_turn, wp_itS, wp_itR, wp_itZ, wp_itE, asIt_tup, asIt_l, wipe_nil, wipe_cons, tuple_l, len_tup, TQ_id, wp_for, List.length_set, wp_turnFor, List.length_cons, List.length_nil, List.cons_append, List.nil_append, List.replicate, Bool.not_true, Bool.not_false, Bool.and_self, Bool.true_and, Bool.and_true, Bool.false_and, Bool.and_false, decide_true, decide_false]
    refine ⟨is ++ [x - 10], s4, by simp, by simp [hl], fun y hy => ?_, h4.mono (by omega), rfl⟩
    rcases List.mem_append.mp hy with hy | hy
    · exact hbn y hy
    · rw [List.mem_singleton.mp hy]; omega
  rintro acc M' ⟨ws, s8, rfl, hwl, hwb, h8, rfl⟩
  rw [rngLen] at hwl h8
  rw [ix0I]
  simp only [wp_cons, wp_nil, wp_if, wb, wp_cmp, wp_idx, wp_var, wp_cst, getP_0, getP_s, optP_some, cop_lt, cop_le, cop_gt, cop_ge, cop_eq, cop_ne, isB_bl, wp_asg, wp_bin, wp_blt, wp_rsC, wp_rsN, bi_int, bi_intb, bi_abs, bi_max, bi_min, bi_gcd, bop_add, bop_sub, stl_d, stl_l, tgt_nm, tgt_tp, tgts_nil, tgts_cons, sets_nil, sets_cons, nxt_nx, nxt_rt, nxt_bk, nxt_ct, List.set_cons_succ, List.set_cons_zero, wp_rt, wp_rtN, wp_pass, wp_brk, wp_cont, finR_rt, finR_nx, wp_expr, wp_par, wp_call, wp_esC, wp_esN, wp_esS, wp_tup, wp_lst, wp_neg, isI_int, wp_nt, wp_and, wp_or, wp_ite, wp_isin, wp_chain, isI_ty, isI_tb, isT_tt, wp_comp, wp_turn, wp_itS, wp_itR, wp_itZ, wp_itE, asIt_tup, asIt_l, wipe_nil, wipe_cons, tuple_l, len_tup, TQ_id, wp_for, List.length_set, wp_turnFor, List.length_cons, List.length_nil, List.cons_append, List.nil_append, List.replicate, Bool.not_true, Bool.not_false, Bool.and_self, Bool.true_and, Bool.and_true, Bool.false_and, Bool.and_false, decide_true, decide_false]
  refine ⟨by decide, ?_⟩
  rw [add_tup (by simp; unfold line; omega)]
  simp only [wp_cons, wp_nil, wp_if, wb, wp_cmp, wp_idx, wp_var, wp_cst, getP_0, getP_s, optP_some, cop_lt, cop_le, cop_gt, cop_ge, cop_eq, cop_ne, isB_bl, wp_asg, wp_bin, wp_blt, wp_rsC, wp_rsN, bi_int, bi_intb, bi_abs, bi_max, bi_min, bi_gcd, bop_add, bop_sub, stl_d, stl_l, tgt_nm, tgt_tp, tgts_nil, tgts_cons, sets_nil, sets_cons, nxt_nx, nxt_rt, nxt_bk, nxt_ct, List.set_cons_succ, List.set_cons_zero, wp_rt, wp_rtN, wp_pass, wp_brk, wp_cont, finR_rt, finR_nx, wp_expr, wp_par, wp_call, wp_esC, wp_esN, wp_esS, wp_tup, wp_lst, wp_neg, isI_int, wp_nt, wp_and, wp_or, wp_ite, wp_isin, wp_chain, isI_ty, isI_tb, isT_tt, wp_comp, wp_turn, wp_itS, wp_itR, wp_itZ, wp_itE, asIt_tup, asIt_l, wipe_nil, wipe_cons, tuple_l, len_tup, TQ_id, wp_for, List.length_set, wp_turnFor, List.length_cons, List.length_nil, List.cons_append, List.nil_append, List.replicate, Bool.not_true, Bool.not_false, Bool.and_self, Bool.true_and, Bool.and_true, Bool.false_and, Bool.and_false, decide_true, decide_false]
  rw [show D.tup (D.int 1 :: ws.map D.int) = dI (1 :: ws) from rfl]
  have hwB : ∀ x ∈ (1 : Int) :: ws, Bn 10 x := fun x hx => by
    rcases List.mem_cons.mp hx with rfl | hx
    · unfold Bn; decide
    · have := hwb x hx
      exact Bn.of (by omega) (by omega)
  rw [s9 (by simp) (by simp; omega) hsh (by simp; omega) hwB (by decide) (by decide)]
  simp only [wp_cons, wp_nil, wp_if, wb, wp_cmp, wp_idx, wp_var, wp_cst, getP_0, getP_s, optP_some, cop_lt, cop_le, cop_gt, cop_ge, cop_eq, cop_ne, isB_bl, wp_asg, wp_bin, wp_blt, wp_rsC, wp_rsN, bi_int, bi_intb, bi_abs, bi_max, bi_min, bi_gcd, bop_add, bop_sub, stl_d, stl_l, tgt_nm, tgt_tp, tgts_nil, tgts_cons, sets_nil, sets_cons, nxt_nx, nxt_rt, nxt_bk, nxt_ct, List.set_cons_succ, List.set_cons_zero, wp_rt, wp_rtN, wp_pass, wp_brk, wp_cont, finR_rt, finR_nx, wp_expr, wp_par, wp_call, wp_esC, wp_esN, wp_esS, wp_tup, wp_lst, wp_neg, isI_int, wp_nt, wp_and, wp_or, wp_ite, wp_isin, wp_chain, isI_ty, isI_tb, isT_tt, wp_comp, wp_turn, wp_itS, wp_itR, wp_itZ, wp_itE, asIt_tup, asIt_l, wipe_nil, wipe_cons, tuple_l, len_tup, TQ_id, wp_for, List.length_set, wp_turnFor, List.length_cons, List.length_nil, List.cons_append, List.nil_append, List.replicate, Bool.not_true, Bool.not_false, Bool.and_self, Bool.true_and, Bool.and_true, Bool.false_and, Bool.and_false, decide_true, decide_false]
  refine ⟨by decide, ?_⟩
  have hdw := dot_bn (a := 99) (b := 10) (by decide) (by decide) (i0 :: is') (1 :: ws) hib fun x hx => by
    rcases List.mem_cons.mp hx with rfl | hx
    · decide
    · exact hwb x hx
  simp only [List.length_cons] at hdw
  generalize dot (i0 :: is') (1 :: ws) = dw at *
  refine pick hp h8 (by omega) (by simp) (by simp) (by simp [D.refsLt]) fun d s9' hd h9 => ?_
  obtain ⟨t2, rfl, ht20, ht21⟩ : ∃ t : Int, d = .int t ∧ -5 ≤ t ∧ t ≤ 5 := by
    simp only [List.mem_cons, List.not_mem_nil, or_false] at hd
    rcases hd with rfl | rfl | rfl | rfl | rfl <;> exact ⟨_, rfl, by decide, by decide⟩
  simp only [wp_cons, wp_nil, wp_if, wb, wp_cmp, wp_idx, wp_var, wp_cst, getP_0, getP_s, optP_some, cop_lt, cop_le, cop_gt, cop_ge, cop_eq, cop_ne, isB_bl, wp_asg, wp_bin, wp_blt, wp_rsC, wp_rsN, bi_int, bi_intb, bi_abs, bi_max, bi_min, bi_gcd, bop_add, bop_sub, stl_d, stl_l, tgt_nm, tgt_tp, tgts_nil, tgts_cons, sets_nil, sets_cons, nxt_nx, nxt_rt, nxt_bk, nxt_ct, List.set_cons_succ, List.set_cons_zero, wp_rt, wp_rtN, wp_pass, wp_brk, wp_cont, finR_rt, finR_nx, wp_expr, wp_par, wp_call, wp_esC, wp_esN, wp_esS, wp_tup, wp_lst, wp_neg, isI_int, wp_nt, wp_and, wp_or, wp_ite, wp_isin, wp_chain, isI_ty, isI_tb, isT_tt, wp_comp, wp_turn, wp_itS, wp_itR, wp_itZ, wp_itE, asIt_tup, asIt_l, wipe_nil, wipe_cons, tuple_l, len_tup, TQ_id, wp_for, List.length_set, wp_turnFor, List.length_cons, List.length_nil, List.cons_append, List.nil_append, List.replicate, Bool.not_true, Bool.not_false, Bool.and_self, Bool.true_and, Bool.and_true, Bool.false_and, Bool.and_false, decide_true, decide_false]
  refine ⟨by decide, ?_⟩
  rw [wp_slcA rfl]
  simp only [wp_cons, wp_nil, wp_if, wb, wp_cmp, wp_idx, wp_var, wp_cst, getP_0, getP_s, optP_some, cop_lt, cop_le, cop_gt, cop_ge, cop_eq, cop_ne, isB_bl, wp_asg, wp_bin, wp_blt, wp_rsC, wp_rsN, bi_int, bi_intb, bi_abs, bi_max, bi_min, bi_gcd, bop_add, bop_sub, stl_d, stl_l, tgt_nm, tgt_tp, tgts_nil, tgts_cons, sets_nil, sets_cons, nxt_nx, nxt_rt, nxt_bk, nxt_ct, List.set_cons_succ, List.set_cons_zero, wp_rt, wp_rtN, wp_pass, wp_brk, wp_cont, finR_rt, finR_nx, wp_expr, wp_par, wp_call, wp_esC, wp_esN, wp_esS, wp_tup, wp_lst, wp_neg, isI_int, wp_nt, wp_and, wp_or, wp_ite, wp_isin, wp_chain, isI_ty, isI_tb, isT_tt, wp_comp, wp_turn, wp_itS, wp_itR, wp_itZ, wp_itE, asIt_tup, asIt_l, wipe_nil, wipe_cons, tuple_l, len_tup, TQ_id, wp_for, List.length_set, wp_turnFor, List.length_cons, List.length_nil, List.cons_append, List.nil_append, List.replicate, Bool.not_true, Bool.not_false, Bool.and_self, Bool.true_and, Bool.and_true, Bool.false_and, Bool.and_false, decide_true, decide_false]
  rw [slice_tup, List.map_cons, cut1]
  simp only [wp_cons, wp_nil, wp_if, wb, wp_cmp, wp_idx, wp_var, wp_cst, getP_0, getP_s, optP_some, cop_lt, cop_le, cop_gt, cop_ge, cop_eq, cop_ne, isB_bl, wp_asg, wp_bin, wp_blt, wp_rsC, wp_rsN, bi_int, bi_intb, bi_abs, bi_max, bi_min, bi_gcd, bop_add, bop_sub, stl_d, stl_l, tgt_nm, tgt_tp, tgts_nil, tgts_cons, sets_nil, sets_cons, nxt_nx, nxt_rt, nxt_bk, nxt_ct, List.set_cons_succ, List.set_cons_zero, wp_rt, wp_rtN, wp_pass, wp_brk, wp_cont, finR_rt, finR_nx, wp_expr, wp_par, wp_call, wp_esC, wp_esN, wp_esS, wp_tup, wp_lst, wp_neg, isI_int, wp_nt, wp_and, wp_or, wp_ite, wp_isin, wp_chain, isI_ty, isI_tb, isT_tt, wp_comp, wp_turn, wp_itS, wp_itR, wp_itZ, wp_itE, asIt_tup, asIt_l, wipe_nil, wipe_cons, tuple_l, len_tup, TQ_id, wp_for, List.length_set, wp_turnFor, List.length_cons, List.length_nil, List.cons_append, List.nil_append, List.replicate, Bool.not_true, Bool.not_false, Bool.and_self, Bool.true_and, Bool.and_true, Bool.false_and, Bool.and_false, decide_true, decide_false]
  rw [add_tup (by simp; unfold line; omega)]
  simp only [wp_cons, wp_nil, wp_if, wb, wp_cmp, wp_idx, wp_var, wp_cst, getP_0, getP_s, optP_some, cop_lt, cop_le, cop_gt, cop_ge, cop_eq, cop_ne, isB_bl, wp_asg, wp_bin, wp_blt, wp_rsC, wp_rsN, bi_int, bi_intb, bi_abs, bi_max, bi_min, bi_gcd, bop_add, bop_sub, stl_d, stl_l, tgt_nm, tgt_tp, tgts_nil, tgts_cons, sets_nil, sets_cons, nxt_nx, nxt_rt, nxt_bk, nxt_ct, List.set_cons_succ, List.set_cons_zero, wp_rt, wp_rtN, wp_pass, wp_brk, wp_cont, finR_rt, finR_nx, wp_expr, wp_par, wp_call, wp_esC, wp_esN, wp_esS, wp_tup, wp_lst, wp_neg, isI_int, wp_nt, wp_and, wp_or, wp_ite, wp_isin, wp_chain, isI_ty, isI_tb, isT_tt, wp_comp, wp_turn, wp_itS, wp_itR, wp_itZ, wp_itE, asIt_tup, asIt_l, wipe_nil, wipe_cons, tuple_l, len_tup, TQ_id, wp_for, List.length_set, wp_turnFor, List.length_cons, List.length_nil, List.cons_append, List.nil_append, List.replicate, Bool.not_true, Bool.not_false, Bool.and_self, Bool.true_and, Bool.and_true, Bool.false_and, Bool.and_false, decide_true, decide_false]
  rw [show D.tup (D.int (i0 - dw + t2) :: is'.map D.int) = dI ((i0 - dw + t2) :: is') from rfl]
  have hib' : ∀ i ∈ (i0 - dw + t2) :: is', -20000 ≤ i ∧ i ≤ 20000 := fun x hx => by
    rcases List.mem_cons.mp hx with rfl | hx
    · have := hib i0 (List.mem_cons_self ..)
      omega
    · have := hib x (List.mem_cons_of_mem _ hx)
      omega
  generalize i0 - dw + t2 = e0 at *
  have hse := short_of (is := e0 :: is') fun i hi => by have := hib' i hi; omega
  have hse2 := short_of (is := opp (e0 :: is')) fun i hi => by have := opp_bd (a := 20000) (by decide) hib' i hi; omega
  refine ⟨by decide, ?_⟩
  rw [add_tup (by simp; unfold line; omega)]
  simp only [wp_cons, wp_nil, wp_if, wb, wp_cmp, wp_idx, wp_var, wp_cst, getP_0, getP_s, optP_some, cop_lt, cop_le, cop_gt, cop_ge, cop_eq, cop_ne, isB_bl, wp_asg, wp_bin, wp_blt, wp_rsC, wp_rsN, bi_int, bi_intb, bi_abs, bi_max, bi_min, bi_gcd, bop_add, bop_sub, stl_d, stl_l, tgt_nm, tgt_tp, tgts_nil, tgts_cons, sets_nil, sets_cons, nxt_nx, nxt_rt, nxt_bk, nxt_ct, List.set_cons_succ, List.set_cons_zero, wp_rt, wp_rtN, wp_pass, wp_brk, wp_cont, finR_rt, finR_nx, wp_expr, wp_par, wp_call, wp_esC, wp_esN, wp_esS, wp_tup, wp_lst, wp_neg, isI_int, wp_nt, wp_and, wp_or, wp_ite, wp_isin, wp_chain, isI_ty, isI_tb, isT_tt, wp_comp, wp_turn, wp_itS, wp_itR, wp_itZ, wp_itE, asIt_tup, asIt_l, wipe_nil, wipe_cons, tuple_l, len_tup, TQ_id, wp_for, List.length_set, wp_turnFor, List.length_cons, List.length_nil, List.cons_append, List.nil_append, List.replicate, Bool.not_true, Bool.not_false, Bool.and_self, Bool.true_and, Bool.and_true, Bool.false_and, Bool.and_false, decide_true, decide_false]
  rw [show D.tup (D.int 1 :: ws.map D.int) = dI (1 :: ws) from rfl]
  rw [s9 (by simp) (by simp; omega) hse (by simp; omega) hwB (by decide) (by decide)]
  simp only [wp_cons, wp_nil, wp_if, wb, wp_cmp, wp_idx, wp_var, wp_cst, getP_0, getP_s, optP_some, cop_lt, cop_le, cop_gt, cop_ge, cop_eq, cop_ne, isB_bl, wp_asg, wp_bin, wp_blt, wp_rsC, wp_rsN, bi_int, bi_intb, bi_abs, bi_max, bi_min, bi_gcd, bop_add, bop_sub, stl_d, stl_l, tgt_nm, tgt_tp, tgts_nil, tgts_cons, sets_nil, sets_cons, nxt_nx, nxt_rt, nxt_bk, nxt_ct, List.set_cons_succ, List.set_cons_zero, wp_rt, wp_rtN, wp_pass, wp_brk, wp_cont, finR_rt, finR_nx, wp_expr, wp_par, wp_call, wp_esC, wp_esN, wp_esS, wp_tup, wp_lst, wp_neg, isI_int, wp_nt, wp_and, wp_or, wp_ite, wp_isin, wp_chain, isI_ty, isI_tb, isT_tt, wp_comp, wp_turn, wp_itS, wp_itR, wp_itZ, wp_itE, asIt_tup, asIt_l, wipe_nil, wipe_cons, tuple_l, len_tup, TQ_id, wp_for, List.length_set, wp_turnFor, List.length_cons, List.length_nil, List.cons_append, List.nil_append, List.replicate, Bool.not_true, Bool.not_false, Bool.and_self, Bool.true_and, Bool.and_true, Bool.false_and, Bool.and_false, decide_true, decide_false]
  rw [s11 (by simp; omega) hse]
  simp only [wp_cons, wp_nil, wp_if, wb, wp_cmp, wp_idx, wp_var, wp_cst, getP_0, getP_s, optP_some, cop_lt, cop_le, cop_gt, cop_ge, cop_eq, cop_ne, isB_bl, wp_asg, wp_bin, wp_blt, wp_rsC, wp_rsN, bi_int, bi_intb, bi_abs, bi_max, bi_min, bi_gcd, bop_add, bop_sub, stl_d, stl_l, tgt_nm, tgt_tp, tgts_nil, tgts_cons, sets_nil, sets_cons, nxt_nx, nxt_rt, nxt_bk, nxt_ct, List.set_cons_succ, List.set_cons_zero, wp_rt, wp_rtN, wp_pass, wp_brk, wp_cont, finR_rt, finR_nx, wp_expr, wp_par, wp_call, wp_esC, wp_esN, wp_esS, wp_tup, wp_lst, wp_neg, isI_int, wp_nt, wp_and, wp_or, wp_ite, wp_isin, wp_chain, isI_ty, isI_tb, isT_tt, wp_comp, wp_turn, wp_itS, wp_itR, wp_itZ, wp_itE, asIt_tup, asIt_l, wipe_nil, wipe_cons, tuple_l, len_tup, TQ_id, wp_for, List.length_set, wp_turnFor, List.length_cons, List.length_nil, List.cons_append, List.nil_append, List.replicate, Bool.not_true, Bool.not_false, Bool.and_self, Bool.true_and, Bool.and_true, Bool.false_and, Bool.and_false, decide_true, decide_false]
  refine ⟨by decide, ?_⟩
  rw [add_tup (by simp; unfold line; omega)]
  simp only [wp_cons, wp_nil, wp_if, wb, wp_cmp, wp_idx, wp_var, wp_cst, getP_0, getP_s, optP_some, cop_lt, cop_le, cop_gt, cop_ge, cop_eq, cop_ne, isB_bl, wp_asg, wp_bin, wp_blt, wp_rsC, wp_rsN, bi_int, bi_intb, bi_abs, bi_max, bi_min, bi_gcd, bop_add, bop_sub, stl_d, stl_l, tgt_nm, tgt_tp, tgts_nil, tgts_cons, sets_nil, sets_cons, nxt_nx, nxt_rt, nxt_bk, nxt_ct, List.set_cons_succ, List.set_cons_zero, wp_rt, wp_rtN, wp_pass, wp_brk, wp_cont, finR_rt, finR_nx, wp_expr, wp_par, wp_call, wp_esC, wp_esN, wp_esS, wp_tup, wp_lst, wp_neg, isI_int, wp_nt, wp_and, wp_or, wp_ite, wp_isin, wp_chain, isI_ty, isI_tb, isT_tt, wp_comp, wp_turn, wp_itS, wp_itR, wp_itZ, wp_itE, asIt_tup, asIt_l, wipe_nil, wipe_cons, tuple_l, len_tup, TQ_id, wp_for, List.length_set, wp_turnFor, List.length_cons, List.length_nil, List.cons_append, List.nil_append, List.replicate, Bool.not_true, Bool.not_false, Bool.and_self, Bool.true_and, Bool.and_true, Bool.false_and, Bool.and_false, decide_true, decide_false]
  rw [show D.tup (D.int 1 :: ws.map D.int) = dI (1 :: ws) from rfl]
  rw [s9 (by rw [opp_len]; simp) (by rw [opp_len]; simp; omega) hse2 (by rw [opp_len]; simp; omega) hwB (by decide) (by decide)]
  simp only [wp_cons, wp_nil, wp_if, wb, wp_cmp, wp_idx, wp_var, wp_cst, getP_0, getP_s, optP_some, cop_lt, cop_le, cop_gt, cop_ge, cop_eq, cop_ne, isB_bl, wp_asg, wp_bin, wp_blt, wp_rsC, wp_rsN, bi_int, bi_intb, bi_abs, bi_max, bi_min, bi_gcd, bop_add, bop_sub, stl_d, stl_l, tgt_nm, tgt_tp, tgts_nil, tgts_cons, sets_nil, sets_cons, nxt_nx, nxt_rt, nxt_bk, nxt_ct, List.set_cons_succ, List.set_cons_zero, wp_rt, wp_rtN, wp_pass, wp_brk, wp_cont, finR_rt, finR_nx, wp_expr, wp_par, wp_call, wp_esC, wp_esN, wp_esS, wp_tup, wp_lst, wp_neg, isI_int, wp_nt, wp_and, wp_or, wp_ite, wp_isin, wp_chain, isI_ty, isI_tb, isT_tt, wp_comp, wp_turn, wp_itS, wp_itR, wp_itZ, wp_itE, asIt_tup, asIt_l, wipe_nil, wipe_cons, tuple_l, len_tup, TQ_id, wp_for, List.length_set, wp_turnFor, List.length_cons, List.length_nil, List.cons_append, List.nil_append, List.replicate, Bool.not_true, Bool.not_false, Bool.and_self, Bool.true_and, Bool.and_true, Bool.false_and, Bool.and_false, decide_true, decide_false]
  rw [dot_opp]
  generalize dot (e0 :: is') (1 :: ws) = X
  rw [ne_bl]
  simp only [wp_cons, wp_nil, wp_if, wb, wp_cmp, wp_idx, wp_var, wp_cst, getP_0, getP_s, optP_some, cop_lt, cop_le, cop_gt, cop_ge, cop_eq, cop_ne, isB_bl, wp_asg, wp_bin, wp_blt, wp_rsC, wp_rsN, bi_int, bi_intb, bi_abs, bi_max, bi_min, bi_gcd, bop_add, bop_sub, stl_d, stl_l, tgt_nm, tgt_tp, tgts_nil, tgts_cons, sets_nil, sets_cons, nxt_nx, nxt_rt, nxt_bk, nxt_ct, List.set_cons_succ, List.set_cons_zero, wp_rt, wp_rtN, wp_pass, wp_brk, wp_cont, finR_rt, finR_nx, wp_expr, wp_par, wp_call, wp_esC, wp_esN, wp_esS, wp_tup, wp_lst, wp_neg, isI_int, wp_nt, wp_and, wp_or, wp_ite, wp_isin, wp_chain, isI_ty, isI_tb, isT_tt, wp_comp, wp_turn, wp_itS, wp_itR, wp_itZ, wp_itE, asIt_tup, asIt_l, wipe_nil, wipe_cons, tuple_l, len_tup, TQ_id, wp_for, List.length_set, wp_turnFor, List.length_cons, List.length_nil, List.cons_append, List.nil_append, List.replicate, Bool.not_true, Bool.not_false, Bool.and_self, Bool.true_and, Bool.and_true, Bool.false_and, Bool.and_false, decide_true, decide_false]
  have e1 : decide (decide (0 ≤ X) = decide (0 ≤ -X - 1)) = false := by
    by_cases hx : 0 ≤ X
    · rw [decide_eq_true hx, decide_eq_false (show ¬ 0 ≤ -X - 1 by omega)]; rfl
    · rw [decide_eq_false hx, decide_eq_true (show 0 ≤ -X - 1 by omega)]; rfl
  rw [e1]
  simp only [wp_cons, wp_nil, wp_if, wb, wp_cmp, wp_idx, wp_var, wp_cst, getP_0, getP_s, optP_some, cop_lt, cop_le, cop_gt, cop_ge, cop_eq, cop_ne, isB_bl, wp_asg, wp_bin, wp_blt, wp_rsC, wp_rsN, bi_int, bi_intb, bi_abs, bi_max, bi_min, bi_gcd, bop_add, bop_sub, stl_d, stl_l, tgt_nm, tgt_tp, tgts_nil, tgts_cons, sets_nil, sets_cons, nxt_nx, nxt_rt, nxt_bk, nxt_ct, List.set_cons_succ, List.set_cons_zero, wp_rt, wp_rtN, wp_pass, wp_brk, wp_cont, finR_rt, finR_nx, wp_expr, wp_par, wp_call, wp_esC, wp_esN, wp_esS, wp_tup, wp_lst, wp_neg, isI_int, wp_nt, wp_and, wp_or, wp_ite, wp_isin, wp_chain, isI_ty, isI_tb, isT_tt, wp_comp, wp_turn, wp_itS, wp_itR, wp_itZ, wp_itE, asIt_tup, asIt_l, wipe_nil, wipe_cons, tuple_l, len_tup, TQ_id, wp_for, List.length_set, wp_turnFor, List.length_cons, List.length_nil, List.cons_append, List.nil_append, List.replicate, Bool.not_true, Bool.not_false, Bool.and_self, Bool.true_and, Bool.and_true, Bool.false_and, Bool.and_false, decide_true, decide_false]
  rw [show decide (X + (-X - 1) = -1) = true from decide_eq_true (by omega)]
  exact q _ (h9.mono (by omega))
end
end
theorem law_ok : ∀ ns : List Int, ns.length ≤ 63 → ∃ M, Phi fuel T lev li [.rl (ns.map D.int)] [] = .ok (.d (.bl true)) M := by
  intro ns hl
  suffices h : WP (PH 8 18 [.rl (ns.map D.int)]) [] (fun r _ => r = .d (.bl true)) by
    obtain ⟨r, M, e, rfl⟩ := h.run
    exact ⟨M, e⟩
  rw [wp_phi (d := d_law) rfl rfl]
  unfold d_law
  simp only [wp_cons, wp_nil, wp_if, wb, wp_cmp, wp_idx, wp_var, wp_cst, getP_0, getP_s, optP_some, cop_lt, cop_le, cop_gt, cop_ge, cop_eq, cop_ne, isB_bl, wp_asg, wp_bin, wp_blt, wp_rsC, wp_rsN, bi_int, bi_intb, bi_abs, bi_max, bi_min, bi_gcd, bop_add, bop_sub, stl_d, stl_l, tgt_nm, tgt_tp, tgts_nil, tgts_cons, sets_nil, sets_cons, nxt_nx, nxt_rt, nxt_bk, nxt_ct, List.set_cons_succ, List.set_cons_zero, wp_rt, wp_rtN, wp_pass, wp_brk, wp_cont, finR_rt, finR_nx, wp_expr, wp_par, wp_call, wp_esC, wp_esN, wp_esS, wp_tup, wp_lst, wp_neg, isI_int, wp_nt, wp_and, wp_or, wp_ite, wp_isin, wp_chain, isI_ty, isI_tb, isT_tt, wp_comp, wp_turn, wp_itS, wp_itR, wp_itZ, wp_itE, asIt_tup, asIt_l, wipe_nil, wipe_cons, tuple_l, len_tup, TQ_id, wp_for, List.length_set, wp_turnFor, List.map_cons, List.map_nil, List.length_cons, List.length_nil, List.cons_append, List.nil_append, List.replicate, Bool.not_true, Bool.not_false, Bool.and_self, Bool.true_and, Bool.and_true, Bool.false_and, Bool.and_false, decide_true, decide_false]
  have e1 : ∀ N : Ar, builtin .len [.d (.rl (ns.map D.int))] N = some (.d (.int (ns.length : Nat))) := fun N => by
    show some (Rv.d (.int ((ns.map D.int).length : Nat))) = _
    rw [List.length_map]
  rw [e1]
  simp only [wp_cons, wp_nil, wp_if, wb, wp_cmp, wp_idx, wp_var, wp_cst, getP_0, getP_s, optP_some, cop_lt, cop_le, cop_gt, cop_ge, cop_eq, cop_ne, isB_bl, wp_asg, wp_bin, wp_blt, wp_rsC, wp_rsN, bi_int, bi_intb, bi_abs, bi_max, bi_min, bi_gcd, bop_add, bop_sub, stl_d, stl_l, tgt_nm, tgt_tp, tgts_nil, tgts_cons, sets_nil, sets_cons, nxt_nx, nxt_rt, nxt_bk, nxt_ct, List.set_cons_succ, List.set_cons_zero, wp_rt, wp_rtN, wp_pass, wp_brk, wp_cont, finR_rt, finR_nx, wp_expr, wp_par, wp_call, wp_esC, wp_esN, wp_esS, wp_tup, wp_lst, wp_neg, isI_int, wp_nt, wp_and, wp_or, wp_ite, wp_isin, wp_chain, isI_ty, isI_tb, isT_tt, wp_comp, wp_turn, wp_itS, wp_itR, wp_itZ, wp_itE, asIt_tup, asIt_l, wipe_nil, wipe_cons, tuple_l, len_tup, TQ_id, wp_for, List.length_set, wp_turnFor, List.map_cons, List.map_nil, List.length_cons, List.length_nil, List.cons_append, List.nil_append, List.replicate, Bool.not_true, Bool.not_false, Bool.and_self, Bool.true_and, Bool.and_true, Bool.false_and, Bool.and_false, decide_true, decide_false]
  generalize hc : (if (if (ns.length : Int) < 3 then (ns.length : Int) else 3) > 1 then (if (ns.length : Int) < 3 then (ns.length : Int) else 3) else 1) = c
  have hc1 : 0 ≤ c ∧ c ≤ 3 := by
    rw [← hc]
    split <;> split <;> omega
  rw [rng1 (by unfold small62; simp; omega)]
  simp only [wp_cons, wp_nil, wp_if, wb, wp_cmp, wp_idx, wp_var, wp_cst, getP_0, getP_s, optP_some, cop_lt, cop_le, cop_gt, cop_ge, cop_eq, cop_ne, isB_bl, wp_asg, wp_bin, wp_blt, wp_rsC, wp_rsN, bi_int, bi_intb, bi_abs, bi_max, bi_min, bi_gcd, bop_add, bop_sub, stl_d, stl_l, tgt_nm, tgt_tp, tgts_nil, tgts_cons, sets_nil, sets_cons, nxt_nx, nxt_rt, nxt_bk, nxt_ct, List.set_cons_succ, List.set_cons_zero, wp_rt, wp_rtN, wp_pass, wp_brk, wp_cont, finR_rt, finR_nx, wp_expr, wp_par, wp_call, wp_esC, wp_esN, wp_esS, wp_tup, wp_lst, wp_neg, isI_int, wp_nt, wp_and, wp_or, wp_ite, wp_isin, wp_chain, isI_ty, isI_tb, isT_tt, wp_comp, wp_turn, wp_itS, wp_itR, wp_itZ, wp_itE, asIt_tup, asIt_l, wipe_nil, wipe_cons, tuple_l, len_tup, TQ_id, wp_for, List.length_set, wp_turnFor, List.map_cons, List.map_nil, List.length_cons, List.length_nil, List.cons_append, List.nil_append, List.replicate, Bool.not_true, Bool.not_false, Bool.and_self, Bool.true_and, Bool.and_true, Bool.false_and, Bool.and_false, decide_true, decide_false]
  refine wp_forSt (fun i e M' => ∃ x1 x3, e = [some (.rl (ns.map D.int)), x1, none, x3]) ⟨_, _, rfl⟩ ?_ ?_
  · rintro i d e M' hd ⟨x1, x3, rfl⟩
    obtain ⟨j, rfl, hj⟩ : ∃ j : Nat, d = .int (j : Nat) ∧ j ≤ 100 := by
      obtain ⟨h1, h2⟩ := rngGet hd
      exact ⟨i, by rw [h1]; simp, by omega⟩
    simp only [wp_cons, wp_nil, wp_if, wb, wp_cmp, wp_idx, wp_var, wp_cst, getP_0, getP_s, optP_some, cop_lt, cop_le, cop_gt, cop_ge, cop_eq, cop_ne, isB_bl, wp_asg, wp_bin, wp_blt, wp_rsC, wp_rsN, bi_int, bi_intb, bi_abs, bi_max, bi_min, bi_gcd, bop_add, bop_sub, stl_d, stl_l, tgt_nm, tgt_tp, tgts_nil, tgts_cons, sets_nil, sets_cons, nxt_nx, nxt_rt, nxt_bk, nxt_ct, List.set_cons_succ, List.set_cons_zero, wp_rt, wp_rtN, wp_pass, wp_brk, wp_cont, finR_rt, finR_nx, wp_expr, wp_par, wp_call, wp_esC, wp_esN, wp_esS, wp_tup, wp_lst, wp_neg, isI_int, wp_nt, wp_and, wp_or, wp_ite, wp_isin, wp_chain, isI_ty, isI_tb, isT_tt, wp_comp, wp_turn, wp_itS, wp_itR, wp_itZ, wp_itE, asIt_tup, asIt_l, wipe_nil, wipe_cons, tuple_l, len_tup, TQ_id, wp_for, List.length_set, wp_turnFor, List.map_cons, List.map_nil, List.length_cons, List.length_nil, List.cons_append, List.nil_append, List.replicate, Bool.not_true, Bool.not_false, Bool.and_self, Bool.true_and, Bool.and_true, Bool.false_and, Bool.and_false, decide_true, decide_false]
    refine s12 hl hj fun s hs => ?_
    simp only [wp_cons, wp_nil, wp_if, wb, wp_cmp, wp_idx, wp_var, wp_cst, getP_0, getP_s, optP_some, cop_lt, cop_le, cop_gt, cop_ge, cop_eq, cop_ne, isB_bl, wp_asg, wp_bin, wp_blt, wp_rsC, wp_rsN, bi_int, bi_intb, bi_abs, bi_max, bi_min, bi_gcd, bop_add, bop_sub, stl_d, stl_l, tgt_nm, tgt_tp, tgts_nil, tgts_cons, sets_nil, sets_cons, nxt_nx, nxt_rt, nxt_bk, nxt_ct, List.set_cons_succ, List.set_cons_zero, wp_rt, wp_rtN, wp_pass, wp_brk, wp_cont, finR_rt, finR_nx, wp_expr, wp_par, wp_call, wp_esC, wp_esN, wp_esS, wp_tup, wp_lst, wp_neg, isI_int, wp_nt, wp_and, wp_or, wp_ite, wp_isin, wp_chain, isI_ty, isI_tb, isT_tt, wp_comp, wp_turn, wp_itS, wp_itR, wp_itZ, wp_itE, asIt_tup, asIt_l, wipe_nil, wipe_cons, tuple_l, len_tup, TQ_id, wp_for, List.length_set, wp_turnFor, List.map_cons, List.map_nil, List.length_cons, List.length_nil, List.cons_append, List.nil_append, List.replicate, Bool.not_true, Bool.not_false, Bool.and_self, Bool.true_and, Bool.and_true, Bool.false_and, Bool.and_false, decide_true, decide_false]
    obtain ⟨B, hB, hp⟩ := push_set M' s
    rw [show M' ++ [Ob.lst [D.int s.1, D.int s.2.1, D.int s.2.2]] = B.set M'.length (spO s) from hB]
    refine s17 hp hs (by decide) fun s1 h1 => TQ_same (by simp) ?_
    simp only [wp_cons, wp_nil, wp_if, wb, wp_cmp, wp_idx, wp_var, wp_cst, getP_0, getP_s, optP_some, cop_lt, cop_le, cop_gt, cop_ge, cop_eq, cop_ne, isB_bl, wp_asg, wp_bin, wp_blt, wp_rsC, wp_rsN, bi_int, bi_intb, bi_abs, bi_max, bi_min, bi_gcd, bop_add, bop_sub, stl_d, stl_l, tgt_nm, tgt_tp, tgts_nil, tgts_cons, sets_nil, sets_cons, nxt_nx, nxt_rt, nxt_bk, nxt_ct, List.set_cons_succ, List.set_cons_zero, wp_rt, wp_rtN, wp_pass, wp_brk, wp_cont, finR_rt, finR_nx, wp_expr, wp_par, wp_call, wp_esC, wp_esN, wp_esS, wp_tup, wp_lst, wp_neg, isI_int, wp_nt, wp_and, wp_or, wp_ite, wp_isin, wp_chain, isI_ty, isI_tb, isT_tt, wp_comp, wp_turn, wp_itS, wp_itR, wp_itZ, wp_itE, asIt_tup, asIt_l, wipe_nil, wipe_cons, tuple_l, len_tup, TQ_id, wp_for, List.length_set, wp_turnFor, List.map_cons, List.map_nil, List.length_cons, List.length_nil, List.cons_append, List.nil_append, List.replicate, Bool.not_true, Bool.not_false, Bool.and_self, Bool.true_and, Bool.and_true, Bool.false_and, Bool.and_false, decide_true, decide_false]
    refine s17 hp h1 (by decide) fun s2 h2 => TQ_same (by simp) ?_
    simp only [wp_cons, wp_nil, wp_if, wb, wp_cmp, wp_idx, wp_var, wp_cst, getP_0, getP_s, optP_some, cop_lt, cop_le, cop_gt, cop_ge, cop_eq, cop_ne, isB_bl, wp_asg, wp_bin, wp_blt, wp_rsC, wp_rsN, bi_int, bi_intb, bi_abs, bi_max, bi_min, bi_gcd, bop_add, bop_sub, stl_d, stl_l, tgt_nm, tgt_tp, tgts_nil, tgts_cons, sets_nil, sets_cons, nxt_nx, nxt_rt, nxt_bk, nxt_ct, List.set_cons_succ, List.set_cons_zero, wp_rt, wp_rtN, wp_pass, wp_brk, wp_cont, finR_rt, finR_nx, wp_expr, wp_par, wp_call, wp_esC, wp_esN, wp_esS, wp_tup, wp_lst, wp_neg, isI_int, wp_nt, wp_and, wp_or, wp_ite, wp_isin, wp_chain, isI_ty, isI_tb, isT_tt, wp_comp, wp_turn, wp_itS, wp_itR, wp_itZ, wp_itE, asIt_tup, asIt_l, wipe_nil, wipe_cons, tuple_l, len_tup, TQ_id, wp_for, List.length_set, wp_turnFor, List.map_cons, List.map_nil, List.length_cons, List.length_nil, List.cons_append, List.nil_append, List.replicate, Bool.not_true, Bool.not_false, Bool.and_self, Bool.true_and, Bool.and_true, Bool.false_and, Bool.and_false, decide_true, decide_false]
    refine s17 hp h2 (by decide) fun s3 h3 => TQ_same (by simp) ?_
    simp only [wp_cons, wp_nil, wp_if, wb, wp_cmp, wp_idx, wp_var, wp_cst, getP_0, getP_s, optP_some, cop_lt, cop_le, cop_gt, cop_ge, cop_eq, cop_ne, isB_bl, wp_asg, wp_bin, wp_blt, wp_rsC, wp_rsN, bi_int, bi_intb, bi_abs, bi_max, bi_min, bi_gcd, bop_add, bop_sub, stl_d, stl_l, tgt_nm, tgt_tp, tgts_nil, tgts_cons, sets_nil, sets_cons, nxt_nx, nxt_rt, nxt_bk, nxt_ct, List.set_cons_succ, List.set_cons_zero, wp_rt, wp_rtN, wp_pass, wp_brk, wp_cont, finR_rt, finR_nx, wp_expr, wp_par, wp_call, wp_esC, wp_esN, wp_esS, wp_tup, wp_lst, wp_neg, isI_int, wp_nt, wp_and, wp_or, wp_ite, wp_isin, wp_chain, isI_ty, isI_tb, isT_tt, wp_comp, wp_turn, wp_itS, wp_itR, wp_itZ, wp_itE, asIt_tup, asIt_l, wipe_nil, wipe_cons, tuple_l, len_tup, TQ_id, wp_for, List.length_set, wp_turnFor, List.map_cons, List.map_nil, List.length_cons, List.length_nil, List.cons_append, List.nil_append, List.replicate, Bool.not_true, Bool.not_false, Bool.and_self, Bool.true_and, Bool.and_true, Bool.false_and, Bool.and_false, decide_true, decide_false]
    exact ⟨_, _, rfl⟩
  · rintro e M' ⟨x1, x3, rfl⟩
    simp only [wp_cons, wp_nil, wp_if, wb, wp_cmp, wp_idx, wp_var, wp_cst, getP_0, getP_s, optP_some, cop_lt, cop_le, cop_gt, cop_ge, cop_eq, cop_ne, isB_bl, wp_asg, wp_bin, wp_blt, wp_rsC, wp_rsN, bi_int, bi_intb, bi_abs, bi_max, bi_min, bi_gcd, bop_add, bop_sub, stl_d, stl_l, tgt_nm, tgt_tp, tgts_nil, tgts_cons, sets_nil, sets_cons, nxt_nx, nxt_rt, nxt_bk, nxt_ct, List.set_cons_succ, List.set_cons_zero, wp_rt, wp_rtN, wp_pass, wp_brk, wp_cont, finR_rt, finR_nx, wp_expr, wp_par, wp_call, wp_esC, wp_esN, wp_esS, wp_tup, wp_lst, wp_neg, isI_int, wp_nt, wp_and, wp_or, wp_ite, wp_isin, wp_chain, isI_ty, isI_tb, isT_tt, wp_comp, wp_turn, wp_itS, wp_itR, wp_itZ, wp_itE, asIt_tup, asIt_l, wipe_nil, wipe_cons, tuple_l, len_tup, TQ_id, wp_for, List.length_set, wp_turnFor, List.map_cons, List.map_nil, List.length_cons, List.length_nil, List.cons_append, List.nil_append, List.replicate, Bool.not_true, Bool.not_false, Bool.and_self, Bool.true_and, Bool.and_true, Bool.false_and, Bool.and_false, decide_true, decide_false]
    rw [show D.tup [D.int 4, D.int 6, D.int (-2)] = dI [4, 6, -2] from rfl, s10 (n := 10) (by decide) (by simp [Bn]) (by decide) (by decide), show low [4, 6, -2] = [2, 3, -1] from by decide +kernel]
    simp only [wp_cons, wp_nil, wp_if, wb, wp_cmp, wp_idx, wp_var, wp_cst, getP_0, getP_s, optP_some, cop_lt, cop_le, cop_gt, cop_ge, cop_eq, cop_ne, isB_bl, wp_asg, wp_bin, wp_blt, wp_rsC, wp_rsN, bi_int, bi_intb, bi_abs, bi_max, bi_min, bi_gcd, bop_add, bop_sub, stl_d, stl_l, tgt_nm, tgt_tp, tgts_nil, tgts_cons, sets_nil, sets_cons, nxt_nx, nxt_rt, nxt_bk, nxt_ct, List.set_cons_succ, List.set_cons_zero, wp_rt, wp_rtN, wp_pass, wp_brk, wp_cont, finR_rt, finR_nx, wp_expr, wp_par, wp_call, wp_esC, wp_esN, wp_esS, wp_tup, wp_lst, wp_neg, isI_int, wp_nt, wp_and, wp_or, wp_ite, wp_isin, wp_chain, isI_ty, isI_tb, isT_tt, wp_comp, wp_turn, wp_itS, wp_itR, wp_itZ, wp_itE, asIt_tup, asIt_l, wipe_nil, wipe_cons, tuple_l, len_tup, TQ_id, wp_for, List.length_set, wp_turnFor, List.map_cons, List.map_nil, List.length_cons, List.length_nil, List.cons_append, List.nil_append, List.replicate, Bool.not_true, Bool.not_false, Bool.and_self, Bool.true_and, Bool.and_true, Bool.false_and, Bool.and_false, decide_true, decide_false]
    rw [show D.tup [D.int 0, D.int 0] = dI [0, 0] from rfl, s10 (n := 10) (by decide) (by simp [Bn]) (by decide) (by decide), show low [0, 0] = [0, 0] from by decide +kernel]
    simp only [wp_cons, wp_nil, wp_if, wb, wp_cmp, wp_idx, wp_var, wp_cst, getP_0, getP_s, optP_some, cop_lt, cop_le, cop_gt, cop_ge, cop_eq, cop_ne, isB_bl, wp_asg, wp_bin, wp_blt, wp_rsC, wp_rsN, bi_int, bi_intb, bi_abs, bi_max, bi_min, bi_gcd, bop_add, bop_sub, stl_d, stl_l, tgt_nm, tgt_tp, tgts_nil, tgts_cons, sets_nil, sets_cons, nxt_nx, nxt_rt, nxt_bk, nxt_ct, List.set_cons_succ, List.set_cons_zero, wp_rt, wp_rtN, wp_pass, wp_brk, wp_cont, finR_rt, finR_nx, wp_expr, wp_par, wp_call, wp_esC, wp_esN, wp_esS, wp_tup, wp_lst, wp_neg, isI_int, wp_nt, wp_and, wp_or, wp_ite, wp_isin, wp_chain, isI_ty, isI_tb, isT_tt, wp_comp, wp_turn, wp_itS, wp_itR, wp_itZ, wp_itE, asIt_tup, asIt_l, wipe_nil, wipe_cons, tuple_l, len_tup, TQ_id, wp_for, List.length_set, wp_turnFor, List.map_cons, List.map_nil, List.length_cons, List.length_nil, List.cons_append, List.nil_append, List.replicate, Bool.not_true, Bool.not_false, Bool.and_self, Bool.true_and, Bool.and_true, Bool.false_and, Bool.and_false, decide_true, decide_false]
    rw [show D.tup [D.int 0, D.int (-9), D.int 6] = dI [0, -9, 6] from rfl, s10 (n := 10) (by decide) (by simp [Bn]) (by decide) (by decide), show low [0, -9, 6] = [0, -3, 2] from by decide +kernel]
    simp only [wp_cons, wp_nil, wp_if, wb, wp_cmp, wp_idx, wp_var, wp_cst, getP_0, getP_s, optP_some, cop_lt, cop_le, cop_gt, cop_ge, cop_eq, cop_ne, isB_bl, wp_asg, wp_bin, wp_blt, wp_rsC, wp_rsN, bi_int, bi_intb, bi_abs, bi_max, bi_min, bi_gcd, bop_add, bop_sub, stl_d, stl_l, tgt_nm, tgt_tp, tgts_nil, tgts_cons, sets_nil, sets_cons, nxt_nx, nxt_rt, nxt_bk, nxt_ct, List.set_cons_succ, List.set_cons_zero, wp_rt, wp_rtN, wp_pass, wp_brk, wp_cont, finR_rt, finR_nx, wp_expr, wp_par, wp_call, wp_esC, wp_esN, wp_esS, wp_tup, wp_lst, wp_neg, isI_int, wp_nt, wp_and, wp_or, wp_ite, wp_isin, wp_chain, isI_ty, isI_tb, isT_tt, wp_comp, wp_turn, wp_itS, wp_itR, wp_itZ, wp_itE, asIt_tup, asIt_l, wipe_nil, wipe_cons, tuple_l, len_tup, TQ_id, wp_for, List.length_set, wp_turnFor, List.map_cons, List.map_nil, List.length_cons, List.length_nil, List.cons_append, List.nil_append, List.replicate, Bool.not_true, Bool.not_false, Bool.and_self, Bool.true_and, Bool.and_true, Bool.false_and, Bool.and_false, decide_true, decide_false]
    rw [show D.tup [D.int 5] = dI [5] from rfl, s10 (n := 10) (by decide) (by simp [Bn]) (by decide) (by decide), show low [5] = [1] from by decide +kernel]
    simp only [wp_cons, wp_nil, wp_if, wb, wp_cmp, wp_idx, wp_var, wp_cst, getP_0, getP_s, optP_some, cop_lt, cop_le, cop_gt, cop_ge, cop_eq, cop_ne, isB_bl, wp_asg, wp_bin, wp_blt, wp_rsC, wp_rsN, bi_int, bi_intb, bi_abs, bi_max, bi_min, bi_gcd, bop_add, bop_sub, stl_d, stl_l, tgt_nm, tgt_tp, tgts_nil, tgts_cons, sets_nil, sets_cons, nxt_nx, nxt_rt, nxt_bk, nxt_ct, List.set_cons_succ, List.set_cons_zero, wp_rt, wp_rtN, wp_pass, wp_brk, wp_cont, finR_rt, finR_nx, wp_expr, wp_par, wp_call, wp_esC, wp_esN, wp_esS, wp_tup, wp_lst, wp_neg, isI_int, wp_nt, wp_and, wp_or, wp_ite, wp_isin, wp_chain, isI_ty, isI_tb, isT_tt, wp_comp, wp_turn, wp_itS, wp_itR, wp_itZ, wp_itE, asIt_tup, asIt_l, wipe_nil, wipe_cons, tuple_l, len_tup, TQ_id, wp_for, List.length_set, wp_turnFor, List.map_cons, List.map_nil, List.length_cons, List.length_nil, List.cons_append, List.nil_append, List.replicate, Bool.not_true, Bool.not_false, Bool.and_self, Bool.true_and, Bool.and_true, Bool.false_and, Bool.and_false, decide_true, decide_false]
    rw [show D.tup [D.int 3, D.int (-1)] = dI [3, -1] from rfl, s11 (by decide) (by decide +kernel)]
    simp only [wp_cons, wp_nil, wp_if, wb, wp_cmp, wp_idx, wp_var, wp_cst, getP_0, getP_s, optP_some, cop_lt, cop_le, cop_gt, cop_ge, cop_eq, cop_ne, isB_bl, wp_asg, wp_bin, wp_blt, wp_rsC, wp_rsN, bi_int, bi_intb, bi_abs, bi_max, bi_min, bi_gcd, bop_add, bop_sub, stl_d, stl_l, tgt_nm, tgt_tp, tgts_nil, tgts_cons, sets_nil, sets_cons, nxt_nx, nxt_rt, nxt_bk, nxt_ct, List.set_cons_succ, List.set_cons_zero, wp_rt, wp_rtN, wp_pass, wp_brk, wp_cont, finR_rt, finR_nx, wp_expr, wp_par, wp_call, wp_esC, wp_esN, wp_esS, wp_tup, wp_lst, wp_neg, isI_int, wp_nt, wp_and, wp_or, wp_ite, wp_isin, wp_chain, isI_ty, isI_tb, isT_tt, wp_comp, wp_turn, wp_itS, wp_itR, wp_itZ, wp_itE, asIt_tup, asIt_l, wipe_nil, wipe_cons, tuple_l, len_tup, TQ_id, wp_for, List.length_set, wp_turnFor, List.map_cons, List.map_nil, List.length_cons, List.length_nil, List.cons_append, List.nil_append, List.replicate, Bool.not_true, Bool.not_false, Bool.and_self, Bool.true_and, Bool.and_true, Bool.false_and, Bool.and_false, decide_true, decide_false]
    rw [show D.tup [D.int (-1)] = dI [-1] from rfl, s11 (by decide) (by decide +kernel)]
    simp only [wp_cons, wp_nil, wp_if, wb, wp_cmp, wp_idx, wp_var, wp_cst, getP_0, getP_s, optP_some, cop_lt, cop_le, cop_gt, cop_ge, cop_eq, cop_ne, isB_bl, wp_asg, wp_bin, wp_blt, wp_rsC, wp_rsN, bi_int, bi_intb, bi_abs, bi_max, bi_min, bi_gcd, bop_add, bop_sub, stl_d, stl_l, tgt_nm, tgt_tp, tgts_nil, tgts_cons, sets_nil, sets_cons, nxt_nx, nxt_rt, nxt_bk, nxt_ct, List.set_cons_succ, List.set_cons_zero, wp_rt, wp_rtN, wp_pass, wp_brk, wp_cont, finR_rt, finR_nx, wp_expr, wp_par, wp_call, wp_esC, wp_esN, wp_esS, wp_tup, wp_lst, wp_neg, isI_int, wp_nt, wp_and, wp_or, wp_ite, wp_isin, wp_chain, isI_ty, isI_tb, isT_tt, wp_comp, wp_turn, wp_itS, wp_itR, wp_itZ, wp_itE, asIt_tup, asIt_l, wipe_nil, wipe_cons, tuple_l, len_tup, TQ_id, wp_for, List.length_set, wp_turnFor, List.map_cons, List.map_nil, List.length_cons, List.length_nil, List.cons_append, List.nil_append, List.replicate, Bool.not_true, Bool.not_false, Bool.and_self, Bool.true_and, Bool.and_true, Bool.false_and, Bool.and_false, decide_true, decide_false]
    refine ⟨by decide, by decide, by decide, by decide, by decide, by decide, by decide, by decide, by decide, by decide, by decide, by decide, by decide, by decide, ?_⟩
    rw [eq_lst (r := true) get_push rfl rfl (by decide +kernel)]
    rfl
end L_k04
end

section
set_option Elab.async false
set_option linter.all false
set_option maxRecDepth 100000
set_option maxHeartbeats 0
namespace L_k04
open PySem PySem.Spec PyProof.Rows L2 Q
abbrev pg : Program := PySem.Challenge.pw_fallorflow_k04_whole_lowest_vectors_and
def top (i : Nat) : Stmt := pg.main.body.getD i (.Pass ⟨0, 0, 0, 0⟩)
def nx : NX := ⟨[("MOST_UNKNOWNS", (.int 14)), ("SIXTY", (.int 1000000000000000000000000000000000000000000000000000000000000))], [("is_integer", 0, 1), ("is_short", 1, 1), ("is_form_in", 2, 2), ("is_any_form", 3, 1), ("is_vector_in", 4, 2), ("at_in", 5, 2), ("opposite_in", 6, 1), ("lowest_in", 7, 1), ("require_any_form", 8, 1), ("value_at", 9, 2), ("lowest", 10, 1), ("opposite", 11, 1), ("_law_spins", 12, 2), ("_law_spin", 13, 2), ("_law_among", 14, 2), ("_law_plain_form", 15, 3), ("_law_shared", 16, 1), ("_law_right", 17, 1), ("law", 18, 1)], ["abs", "all", "bool", "int", "isinstance", "len", "max", "min", "range", "sum", "tuple", "zip"], [("gcd", .gcd)]⟩
def t_is_integer : TD := ⟨"is_integer", top 7, ["value"], d_is_integer⟩
def t_is_short : TD := ⟨"is_short", top 8, ["value"], d_is_short⟩
def t_is_form_in : TD := ⟨"is_form_in", top 11, ["many", "value", "entry"], d_is_form_in⟩
def t_is_any_form : TD := ⟨"is_any_form", top 12, ["value"], d_is_any_form⟩
def t_is_vector_in : TD := ⟨"is_vector_in", top 13, ["many", "value", "entry"], d_is_vector_in⟩
def t_at_in : TD := ⟨"at_in", top 14, ["form", "vector", "one", "other"], d_at_in⟩
def t_opposite_in : TD := ⟨"opposite_in", top 15, ["form", "entry"], d_opposite_in⟩
def t_lowest_in : TD := ⟨"lowest_in", top 16, ["vector", "shared", "entry"], d_lowest_in⟩
def t_require_any_form : TD := ⟨"require_any_form", top 17, ["form"], d_require_any_form⟩
def t_value_at : TD := ⟨"value_at", top 18, ["form", "vector"], d_value_at⟩
def t_lowest : TD := ⟨"lowest", top 19, ["vector"], d_lowest⟩
def t_opposite : TD := ⟨"opposite", top 20, ["form"], d_opposite⟩
def t__law_spins : TD := ⟨"_law_spins", top 22, ["_law_script", "_law_spot", "_law_cell", "_law_great"], d__law_spins⟩
def t__law_spin : TD := ⟨"_law_spin", top 23, ["_law_spins_here", "_law_total", "_law_one", "_law_two", "_law_found"], d__law_spin⟩
def t__law_among : TD := ⟨"_law_among", top 24, ["_law_spins_here", "_law_items"], d__law_among⟩
def t__law_plain_form : TD := ⟨"_law_plain_form", top 25, ["_law_spins_here", "_law_many", "_law_most", "_law_at"], d__law_plain_form⟩
def t__law_shared : TD := ⟨"_law_shared", top 26, ["_law_numbers", "_law_found", "_law_number", "_law_turn", "_law_one", "_law_other"], d__law_shared⟩
def t__law_right : TD := ⟨"_law_right", top 27, ["_law_spins_here", "_law_many", "_law_size", "_law_plain", "_law_number", "_law_vector", "_law_form", "_law_values", "_law_more", "_law_told", "_law_shared_here", "_law_first", "_law_second", "_law_one", "_law_at"], d__law_right⟩
def t_law : TD := ⟨"law", top 28, ["_law_script", "_law_spot", "_law_told", "_law_spins_here"], d_law⟩
def tds : List TD := [t_is_integer, t_is_short, t_is_form_in, t_is_any_form, t_is_vector_in, t_at_in, t_opposite_in, t_lowest_in, t_require_any_form, t_value_at, t_lowest, t_opposite, t__law_spins, t__law_spin, t__law_among, t__law_plain_form, t__law_shared, t__law_right, t_law]
theorem tab_eq : tabOf tds = T := funext fun i => by
  show (tds[i]?).map _ = dfs[i]?
  rw [← List.getElem?_map]; rfl
theorem bi_is_integer : BindT t_is_integer := fun _ _ _ _ _ _ us hl => match us, hl with | [_], _ => rfl
theorem bi_is_short : BindT t_is_short := fun _ _ _ _ _ _ us hl => match us, hl with | [_], _ => rfl
theorem bi_is_form_in : BindT t_is_form_in := fun _ _ _ _ _ _ us hl => match us, hl with | [_, _], _ => rfl
theorem bi_is_any_form : BindT t_is_any_form := fun _ _ _ _ _ _ us hl => match us, hl with | [_], _ => rfl
theorem bi_is_vector_in : BindT t_is_vector_in := fun _ _ _ _ _ _ us hl => match us, hl with | [_, _], _ => rfl
theorem bi_at_in : BindT t_at_in := fun _ _ _ _ _ _ us hl => match us, hl with | [_, _], _ => rfl
theorem bi_opposite_in : BindT t_opposite_in := fun _ _ _ _ _ _ us hl => match us, hl with | [_], _ => rfl
theorem bi_lowest_in : BindT t_lowest_in := fun _ _ _ _ _ _ us hl => match us, hl with | [_], _ => rfl
theorem bi_require_any_form : BindT t_require_any_form := fun _ _ _ _ _ _ us hl => match us, hl with | [_], _ => rfl
theorem bi_value_at : BindT t_value_at := fun _ _ _ _ _ _ us hl => match us, hl with | [_, _], _ => rfl
theorem bi_lowest : BindT t_lowest := fun _ _ _ _ _ _ us hl => match us, hl with | [_], _ => rfl
theorem bi_opposite : BindT t_opposite := fun _ _ _ _ _ _ us hl => match us, hl with | [_], _ => rfl
theorem bi__law_spins : BindT t__law_spins := fun _ _ _ _ _ _ us hl => match us, hl with | [_, _], _ => rfl
theorem bi__law_spin : BindT t__law_spin := fun _ _ _ _ _ _ us hl => match us, hl with | [_, _], _ => rfl
theorem bi__law_among : BindT t__law_among := fun _ _ _ _ _ _ us hl => match us, hl with | [_, _], _ => rfl
theorem bi__law_plain_form : BindT t__law_plain_form := fun _ _ _ _ _ _ us hl => match us, hl with | [_, _, _], _ => rfl
theorem bi__law_shared : BindT t__law_shared := fun _ _ _ _ _ _ us hl => match us, hl with | [_], _ => rfl
theorem bi__law_right : BindT t__law_right := fun _ _ _ _ _ _ us hl => match us, hl with | [_], _ => rfl
theorem bi_law : BindT t_law := fun _ _ _ _ _ _ us hl => match us, hl with | [_], _ => rfl
theorem binds : BindTs tds := ⟨bi_is_integer, bi_is_short, bi_is_form_in, bi_is_any_form, bi_is_vector_in, bi_at_in, bi_opposite_in, bi_lowest_in, bi_require_any_form, bi_value_at, bi_lowest, bi_opposite, bi__law_spins, bi__law_spin, bi__law_among, bi__law_plain_form, bi__law_shared, bi__law_right, bi_law, trivial⟩
theorem ok_is_integer : TD.okB nx t_is_integer = true := by kernel_rfl
theorem ok_is_short : TD.okB nx t_is_short = true := by kernel_rfl
theorem ok_is_form_in : TD.okB nx t_is_form_in = true := by kernel_rfl
theorem ok_is_any_form : TD.okB nx t_is_any_form = true := by kernel_rfl
theorem ok_is_vector_in : TD.okB nx t_is_vector_in = true := by kernel_rfl
theorem ok_at_in : TD.okB nx t_at_in = true := by kernel_rfl
theorem ok_opposite_in : TD.okB nx t_opposite_in = true := by kernel_rfl
theorem ok_lowest_in : TD.okB nx t_lowest_in = true := by kernel_rfl
theorem ok_require_any_form : TD.okB nx t_require_any_form = true := by kernel_rfl
theorem ok_value_at : TD.okB nx t_value_at = true := by kernel_rfl
theorem ok_lowest : TD.okB nx t_lowest = true := by kernel_rfl
theorem ok_opposite : TD.okB nx t_opposite = true := by kernel_rfl
theorem ok__law_spins : TD.okB nx t__law_spins = true := by kernel_rfl
theorem ok__law_spin : TD.okB nx t__law_spin = true := by kernel_rfl
theorem ok__law_among : TD.okB nx t__law_among = true := by kernel_rfl
theorem ok__law_plain_form : TD.okB nx t__law_plain_form = true := by kernel_rfl
theorem ok__law_shared : TD.okB nx t__law_shared = true := by kernel_rfl
theorem ok__law_right : TD.okB nx t__law_right = true := by kernel_rfl
theorem ok_law : TD.okB nx t_law = true := by kernel_rfl
theorem oks : tds.all (TD.okB nx) = true := by
  show (TD.okB nx t_is_integer && (TD.okB nx t_is_short && (TD.okB nx t_is_form_in && (TD.okB nx t_is_any_form && (TD.okB nx t_is_vector_in && (TD.okB nx t_at_in && (TD.okB nx t_opposite_in && (TD.okB nx t_lowest_in && (TD.okB nx t_require_any_form && (TD.okB nx t_value_at && (TD.okB nx t_lowest && (TD.okB nx t_opposite && (TD.okB nx t__law_spins && (TD.okB nx t__law_spin && (TD.okB nx t__law_among && (TD.okB nx t__law_plain_form && (TD.okB nx t__law_shared && (TD.okB nx t__law_right && (TD.okB nx t_law && true))))))))))))))))))) = true
  rw [ok_is_integer, ok_is_short, ok_is_form_in, ok_is_any_form, ok_is_vector_in, ok_at_in, ok_opposite_in, ok_lowest_in, ok_require_any_form, ok_value_at, ok_lowest, ok_opposite, ok__law_spins, ok__law_spin, ok__law_among, ok__law_plain_form, ok__law_shared, ok__law_right, ok_law]; rfl
theorem fns_ok : fnsB nx tds = true := by kernel_rfl
abbrev R : PySem.W.OpenRow := PySem.W.OpenLaw.row PySem.Challenge.rw_fallorflow_k04_whole_lowest_vectors_and
def ls0 : List Str := ["gcd", "__name__", "FlowError", "InvalidForm", "InvalidOperation", "SIXTY", "is_integer", "is_short", "MOST_UNKNOWNS", "is_form_in", "is_any_form", "is_vector_in", "at_in", "opposite_in", "lowest_in", "require_any_form", "value_at", "lowest", "opposite", "_law_spins", "_law_spin", "_law_among", "_law_plain_form", "_law_shared", "_law_right"]
abbrev loose : List Str := ls0
theorem run (w : World) : HandSHeadRun.RunEqI R (PySem.W.view R.prog [0, 28]) (hookQ 4 (gsQ nx) (faQ nx tds) (tds.map TD.dd)) (obQ 4 (gsQ nx) (faQ nx tds) (tds.map TD.dd)) 1360 loose w := by
  unfold HandSHeadRun.RunEqI
  kernel_rfl
end L_k04
open PySem PySem.W PySem.Calls PyProof.Rows
theorem PySem.Challenge.cw_fallorflow_k04_whole_lowest_vectors_and_holds : PySem.Challenge.rw_fallorflow_k04_whole_lowest_vectors_and.Holds := by
  w_on; o_law
  refine HandSHeadRun.head_imp (r := OpenLaw.row PySem.Challenge.rw_fallorflow_k04_whole_lowest_vectors_and) (q := view (OpenLaw.row PySem.Challenge.rw_fallorflow_k04_whole_lowest_vectors_and).prog [0, 28]) (H := Q.hookQ 4 (Q.gsQ L_k04.nx) (Q.faQ L_k04.nx L_k04.tds) (L_k04.tds.map Q.TD.dd)) (ob := Q.obQ 4 (Q.gsQ L_k04.nx) (Q.faQ L_k04.nx L_k04.tds) (L_k04.tds.map Q.TD.dd)) (M := 1360) (loose := L_k04.loose) (d := HandSHeadRun.topDef (OpenLaw.row PySem.Challenge.rw_fallorflow_k04_whole_lowest_vectors_and).prog 28) (kwd := []) Q.obQ_eq L_k04.run (by kernel_rfl) (by kernel_rfl) (by kernel_rfl) (by rfl) (by first | assumption | decide +kernel) (by decide +kernel) ⟨rfl, rfl, rfl, rfl, rfl, by decide +kernel⟩ ?hw ?hc
  case hw => w_witness2
  case hc =>
    exact Q.walk_q (lw := PySem.Challenge.rw_fallorflow_k04_whole_lowest_vectors_and) (n := 63) (k := 8) (li := 18) (fuel := L_k04.fuel) (t := L_k04.t_law) (x := "_law_script") (G := L_k04.nx) (l := L_k04.tds) rfl (by decide) (by kernel_rfl) ⟨rfl, by decide, by decide⟩ L_k04.binds L_k04.oks L_k04.fns_ok rfl rfl (by kernel_rfl) rfl rfl (by rw [L_k04.tab_eq]; exact L_k04.law_ok)
end
