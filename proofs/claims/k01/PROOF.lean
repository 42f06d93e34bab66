import PyProof.Rows.All
import Wide.All
import OpenK.AllK
import Wide.FinOn
import PyProof.P3Statements
import HandS.ForMost
import HandS.Zip
import HandS.TupAny
import HandS.Wide
import HandS.Gcd
import HandS.Star
import HandS.ExcOwn
import HandS.IsInst
import HandS.TupMul
import HandS.Strs
import HandS.TryMany
import HandS.Dict
import HandS.Style
import HandS.Defaults
import HandS.Conv
import HandS.Head0
import HandS.Head1
import HandS.Head2
import HandS.Head3
import HandS.HeadEnd
import HandS.HeadHook1
import HandS.HeadHook2
import PySem.Challenge.RW_fallorflow_k01_whole_forms_put_into_form
section
set_option linter.all false
/-! The small interpreter: values, arena, terms, what they compute. No program, no heap in sight. -/
namespace Q
open PySem

/-- values: tuples by value; lists and dicts that nobody writes any more by value (vl, vd); what is written by its place in the arena; rl: the script -/
inductive D where
  | non | bl (b : Bool) | int (i : Int) | str (x : List Nat) | tup (ds : List D) | rl (ds : List D) | vl (ds : List D) | vd (t : Bool) (ks vs : List D) | ref (n : Nat)

mutual
def D.eqb : D → D → Bool
  | .non, .non => true
  | .bl a, .bl b => a == b
  | .int a, .int b => decide (a = b)
  | .str a, .str b => decide (a = b)
  | .tup a, .tup b => D.eqbs a b
  | .rl a, .rl b => D.eqbs a b
  | .vl a, .vl b => D.eqbs a b
  | .vd t a x, .vd u b y => t == u && (D.eqbs a b && D.eqbs x y)
  | .ref a, .ref b => Nat.beq a b
  | _, _ => false
def D.eqbs : List D → List D → Bool
  | [], [] => true
  | a :: as, b :: bs => D.eqb a b && D.eqbs as bs
  | _, _ => false
end
mutual
theorem D.eqb_eq : ∀ {a b : D}, D.eqb a b = true → a = b
  | .non, b, h => by cases b <;> first | rfl | (simp [D.eqb] at h)
  | .bl a, b, h => by cases b <;> simp [D.eqb] at h; rw [h]
  | .int a, b, h => by cases b <;> simp [D.eqb] at h; rw [h]
  | .str a, b, h => by cases b <;> simp [D.eqb] at h; rw [h]
  | .tup a, b, h => by
    cases b <;> simp [D.eqb] at h
    rw [D.eqbs_eq h]
  | .rl a, b, h => by
    cases b <;> simp [D.eqb] at h
    rw [D.eqbs_eq h]
  | .vl a, b, h => by
    cases b <;> simp [D.eqb] at h
    rw [D.eqbs_eq h]
  | .vd t a x, b, h => by
    cases b <;> simp [D.eqb] at h
    rw [h.1, D.eqbs_eq h.2.1, D.eqbs_eq h.2.2]
  | .ref a, b, h => by cases b <;> simp [D.eqb] at h; rw [h]
theorem D.eqbs_eq : ∀ {a b : List D}, D.eqbs a b = true → a = b
  | [], b, h => by cases b <;> first | rfl | (simp [D.eqbs] at h)
  | a :: as, b, h => by
    cases b with
    | nil => simp [D.eqbs] at h
    | cons b bs =>
      simp [D.eqbs] at h
      rw [D.eqb_eq h.1, D.eqbs_eq h.2]
end
mutual
/-- all places named in it lie below n -/
def D.refsLt (n : Nat) : D → Bool
  | .tup ds => D.refsLt_all n ds
  | .rl ds => D.refsLt_all n ds
  | .vl ds => D.refsLt_all n ds
  | .vd _ _ vs => D.refsLt_all n vs
  | .ref k => Nat.blt k n
  | _ => true
def D.refsLt_all (n : Nat) : List D → Bool
  | [] => true
  | d :: ds => D.refsLt n d && D.refsLt_all n ds
end

/-- what stands in the arena -/
inductive Ob where
  | lst (ds : List D)
  /-- a dict: t: its keys are tuples, else whole numbers and texts -/
  | dct (t : Bool) (ks vs : List D)
  /-- draws, as the plain proofs see them: nothing is known of it -/
  | spn
def Ob.eqb : Ob → Ob → Bool
  | .lst a, .lst b => D.eqbs a b
  | .dct t a x, .dct u b y => t == u && (D.eqbs a b && D.eqbs x y)
  | .spn, .spn => true
  | _, _ => false
theorem Ob.eqb_eq : ∀ {a b : Ob}, Ob.eqb a b = true → a = b
  | .lst a, .lst b, h => by rw [D.eqbs_eq h]
  | .dct t a x, .dct u b y, h => by
    have h : (t == u && (D.eqbs a b && D.eqbs x y)) = true := h
    simp only [Bool.and_eq_true, beq_iff_eq] at h
    rw [h.1, D.eqbs_eq h.2.1, D.eqbs_eq h.2.2]
  | .spn, .spn, _ => rfl
  | .lst _, .dct _ _ _, h => by cases h
  | .dct _ _ _, .lst _, h => by cases h
  | .lst _, .spn, h => by cases h
  | .dct _ _ _, .spn, h => by cases h
  | .spn, .lst _, h => by cases h
  | .spn, .dct _ _ _, h => by cases h
def Ob.refsLt (n : Nat) : Ob → Bool
  | .lst ds => D.refsLt_all n ds
  | .dct _ _ vs => D.refsLt_all n vs
  | .spn => true

abbrev Ar := List Ob
abbrev Env := List (Option D)
/-- what a term comes to: a value, or a new list, a new dict, that nobody has yet -/
inductive Rv where
  | d (d : D) | l (ds : List D) | m (t : Bool) (ks vs : List D)
inductive Out (α : Type) where
  | ok (a : α) (M : Ar) | exc (c : Nat) (p : D) (M : Ar) | stuck
abbrev Md (α : Type) := Ar → Out α
def ret {α : Type} (a : α) : Md α := fun M => .ok a M
def bnd {α β : Type} (x : Md α) (f : α → Md β) : Md β := fun M => match x M with
  | .ok a M' => f a M'
  | .exc c p M' => .exc c p M'
  | .stuck => .stuck
def stk {α : Type} : Md α := fun _ => .stuck
/-- what may fail and changes nothing -/
def opt {α : Type} (f : Ar → Option α) : Md α := fun M => match f M with
  | some a => .ok a M
  | none => .stuck
/-- what is new is written no more -/
def valR : Rv → D
  | .d d => d
  | .l ds => .vl ds
  | .m t ks vs => .vd t ks vs
def settle (r : Rv) : Md D := ret (valR r)
/-- what is new gets its place in the arena -/
def place : Rv → Md D
  | .d d => ret d
  | .l ds => fun M => .ok (.ref M.length) (M ++ [.lst ds])
  | .m t ks vs => fun M => .ok (.ref M.length) (M ++ [.dct t ks vs])
def line : Nat := 1000000

/-! ### operators -/
inductive Bop where
  | add | sub | mul | div | mod | pow
inductive Cop where
  | eq | ne | lt | le | gt | ge | is_ | isn | in_ | nin

/-- the items of a list -/
def asL (M : Ar) : Rv → Option (List D)
  | .l ds => some ds
  | .d (.vl ds) => some ds
  | .d (.ref n) => match M[n]? with
    | some (.lst ds) => some ds
    | _ => none
  | _ => none
/-- the items of a list or a tuple -/
def asS (M : Ar) : Rv → Option (List D)
  | .l ds => some ds
  | .d (.tup ds) => some ds
  | .d (.rl ds) => some ds
  | .d (.vl ds) => some ds
  | .d (.ref n) => match M[n]? with
    | some (.lst ds) => some ds
    | _ => none
  | _ => none
/-- data, for == -/
def toP : Nat → Ar → D → Option PyData
  | 0, _, _ => none
  | _ + 1, _, .non => some .none
  | _ + 1, _, .bl b => some (.bool b)
  | _ + 1, _, .int i => some (.int i)
  | _ + 1, _, .str x => if x.all (· < 1114112) then some (.str ⟨x.toArray⟩) else none
  | k + 1, M, .tup ds => (ds.mapM (toP k M)).map .tuple
  | k + 1, M, .rl ds => (ds.mapM (toP k M)).map .list
  | k + 1, M, .vl ds => (ds.mapM (toP k M)).map .list
  | _ + 1, _, .vd _ _ _ => none
  | k + 1, M, .ref n => match M[n]? with
    | some (.lst ds) => (ds.mapM (toP k M)).map .list
    | _ => none
def toPR (M : Ar) : Rv → Option PyData
  | .d d => toP 30 M d
  | .l ds => (ds.mapM (toP 29 M)).map .list
  | .m _ _ _ => none
def bits (i : Int) : Nat := i.natAbs.log2 + 1
def mulOk (i j : Int) : Bool := decide (bits i + bits j < 900000)
def binI : Bop → Int → Int → Option Int
  | .add, i, j => some (i + j)
  | .sub, i, j => some (i - j)
  | .mul, i, j => if mulOk i j then some (i * j) else none
  | .div, i, j => if 0 < j && decide (bits j < 9000) then some (i / j) else none
  | .mod, i, j => if j ≠ 0 then some (i.fmod j) else none
  | .pow, i, j => if 0 ≤ j && decide ((bits i : Int) * j ≤ 1000000) then some (i ^ j.toNat) else none
def binStr (o : Bop) (a b : List Nat) : Option Rv := match o with
  | .add => if a.length + b.length ≤ line then some (.d (.str (a ++ b))) else none
  | _ => none
def binTup (o : Bop) (a b : List D) : Option Rv := match o with
  | .add => if a.length + b.length ≤ line then some (.d (.tup (a ++ b))) else none
  | _ => none
def catL (M : Ar) (x y : Rv) : Option Rv := match asL M x, asL M y with
  | some a, some b => if a.length + b.length ≤ line then some (.l (a ++ b)) else none
  | _, _ => none
def repL (M : Ar) (x y : Rv) : Option Rv := match asL M x, y with
  | some a, .d (.int k) => if -1000000 < k ∧ k < 1000000 ∧ a.length * k.toNat ≤ line then some (.l (List.replicate k.toNat a).flatten) else none
  | _, _ => none
def binLst (o : Bop) (x y : Rv) (M : Ar) : Option Rv := match o with
  | .add => catL M x y
  | .mul => repL M x y
  | _ => none
def binInt (o : Bop) (i j : Int) : Option Rv := match binI o i j with
  | some k => some (.d (.int k))
  | none => none
def repT (o : Bop) (a : List D) (k : Int) : Option Rv := match o with
  | .mul => if a ≠ [] ∧ 1 ≤ k ∧ k ≤ 1000 ∧ a.length ≤ 1000 then some (.d (.tup (List.replicate k.toNat a).flatten)) else none
  | _ => none
def binop (o : Bop) (x y : Rv) (M : Ar) : Option Rv := match x, y with
  | .d (.int i), .d (.int j) => binInt o i j
  | .d (.tup a), .d (.int k) => repT o a k
  | .d (.str a), .d (.str b) => binStr o a b
  | .d (.tup a), .d (.tup b) => binTup o a b
  | x, y => binLst o x y M
def isNon : Rv → Bool
  | .d .non => true
  | _ => false
/-- is the list b somewhere in a, side by side -/
def subStr (a b : List Nat) : Bool := match a with
  | [] => b.isEmpty
  | x :: xs => b.isPrefixOf (x :: xs) || subStr xs b
def eqR (M : Ar) (x y : Rv) : Option Bool := match toPR M x, toPR M y with
  | some a, some b => some (PyData.eqv a b)
  | _, _ => none
def inR (M : Ar) (x y : Rv) : Option Bool := match toPR M x, (asS M y).bind (fun ds => ds.mapM (toP 29 M)) with
  | some a, some bs => some (bs.any fun b => PyData.eqv b a)
  | _, _ => none
def cmpI (f : Int → Int → Bool) (x y : Rv) : Option Bool := match x, y with
  | .d (.int i), .d (.int j) => some (f i j)
  | _, _ => none
def cmpEq (x y : Rv) (M : Ar) : Option Bool := match x, y with
  | .d (.int i), .d (.int j) => some (decide (i = j))
  | x, y => eqR M x y
/-- x == [] asks for the length alone -/
def cmpEq0 (x y : Rv) (M : Ar) : Option Bool := match y with
  | .l [] => match asL M x with
    | some ds => some ds.isEmpty
    | none => cmpEq x y M
  | y => cmpEq x y M
def cmpIn (x y : Rv) (M : Ar) : Option Bool := match x, y with
  | .d (.str _), .d (.str _) => none
  | x, y => inR M x y
def cmpIs (x y : Rv) : Option Bool := if isNon y then some (isNon x) else none
def cmpop (o : Cop) (x y : Rv) (M : Ar) : Option Bool := match o with
  | .lt => cmpI (fun i j => decide (i < j)) x y
  | .le => cmpI (fun i j => decide (i ≤ j)) x y
  | .gt => cmpI (fun i j => decide (j < i)) x y
  | .ge => cmpI (fun i j => decide (j ≤ i)) x y
  | .eq => cmpEq0 x y M
  | .ne => (cmpEq x y M).map (!·)
  | .is_ => cmpIs x y
  | .isn => (cmpIs x y).map (!·)
  | .in_ => cmpIn x y M
  | .nin => (cmpIn x y M).map (!·)

/-! ### terms -/
/-- built-in functions -/
inductive Blt where
  | len | abs | int | max | min | sum | all | any | tuple | list | gcd | sorted | lenset | str
/-- types that isinstance is asked for -/
inductive Ty where
  | int | bool | str | tuple | list | dict
  deriving DecidableEq
/-- what a shape of the text says of one value -/
inductive Op1 where
  | lenset | lrg | trg
/-- of two -/
inductive Op2 where
  | lrg2 | trg2
inductive Mth where
  | append | pop | extend
mutual
inductive Tm where
  | var (i : Nat)
  | cst (d : D)
  | neg (a : Tm)
  | nt (a : Tm)
  | bin (o : Bop) (a b : Tm)
  | cmp (o : Cop) (a b : Tm)
  | chain (o p : Cop) (a b c : Tm)
  | and (a b : Tm)
  | or (a b : Tm)
  | ite (c a b : Tm)
  | tup (es : Es)
  | lst (es : Es)
  | idx (a b : Tm)
  | slc (a lo hi : Tm)
  | call (f : Nat) (es : Es)
  | blt (b : Blt) (es : Es)
  | isin (a : Tm) (ts : List Ty)
  | comp (own : List Nat) (it : Itm) (g : Tg) (c e : Tm)
  | meth (m : Mth) (a : Tm) (es : Es)
  | dict0 (t : Bool)
  | op1 (o : Op1) (a : Tm)
  | op2 (o : Op2) (a b : Tm)
  | never
inductive Es where
  | nil
  | cons (e : Tm) (es : Es)
  | star (e : Tm) (es : Es)
  | plc (e : Tm) (es : Es)
inductive Itm where
  | seq (a : Tm)
  | rng (es : Es)
  | zip (a b : Tm)
  | enum (a : Tm)
inductive Tg where
  | nm (i : Nat)
  | tp (gs : Tgs)
inductive Tgs where
  | nil
  | cons (g : Tg) (gs : Tgs)
end
mutual
inductive Stm where
  | asg (g : Tg) (e : Tm)
  | asgP (g : Tg) (e : Tm)
  | par (js : List Nat) (es : Es)
  | put (a i e : Tm)
  | expr (e : Tm)
  | ret (e : Tm)
  | retN
  | ite (c : Tm) (a b : Stms)
  | for_ (it : Itm) (g : Tg) (s : Stms)
  | while_ (c : Tm) (s : Stms)
  | pass
  | brk
  | cont
  | never
inductive Stms where
  | nil
  | cons (s : Stm) (r : Stms)
end

/-! ### what they compute -/
def wipe (env : Env) : List Nat → Env
  | [] => env
  | v :: vs => (wipe env vs).set v none
def ixD (n : Nat) (i : Int) : Option Nat := if 0 ≤ i then (if i < n then some i.toNat else none) else if -(n : Int) ≤ i then some (i + n).toNat else none
def atD {α : Type} (xs : List α) (i : Int) : Option α := match ixD xs.length i with
  | some j => xs[j]?
  | none => none
def sIxD (n d : Nat) : Option Int → Nat
  | none => d
  | some i => if i < 0 then (i + n).toNat else min i.toNat n
def cutD {α : Type} (xs : List α) (lo hi : Option Int) : List α := (xs.drop (sIxD xs.length 0 lo)).take (sIxD xs.length xs.length hi - sIxD xs.length 0 lo)
def index (x y : Rv) (M : Ar) : Option Rv := match y with
  | .d (.int i) => match x with
    | .d (.str cs) => match (if cs.length ≤ line then atD cs i else none) with
      | some c => some ((.d (.str [c])))
      | none => none
    | x => match (asS M x).bind (atD · i) with
      | some d => some ((.d d))
      | none => none
  | _ => none
def slice (x : Rv) (l h : Option Int) (M : Ar) : Option Rv := match x with
  | .d (.str cs) => if cs.length ≤ line then some (.d (.str (cutD cs l h))) else none
  | .d (.tup ds) => some (.d (.tup (cutD ds l h)))
  | x => match asS M x with
    | some ds => some (.l (cutD ds l h))
    | none => none
def intsD : List D → Option (List Int)
  | [] => some []
  | .int i :: ds => match intsD ds with
    | some r => some (i :: r)
    | none => none
  | _ => none
def boolsD : List D → Option (List Bool)
  | [] => some []
  | .bl i :: ds => match boolsD ds with
    | some r => some (i :: r)
    | none => none
  | _ => none
def insI (i : Int) : List Int → List Int
  | [] => [i]
  | j :: js => if i ≤ j then i :: j :: js else j :: insI i js
def sortI : List Int → List Int
  | [] => []
  | i :: is => insI i (sortI is)
def b2i (b : Bool) : Int := if b then 1 else 0
def builtin (b : Blt) (xs : List Rv) (M : Ar) : Option Rv := match b, xs with
  | .len, [.d (.str cs)] => if cs.length ≤ line then some (.d (.int (cs.length : Nat))) else none
  | .len, [x] => (asS M x).map fun ds => .d (.int (ds.length : Nat))
  | .abs, [.d (.int i)] => some ((.d (.int (if i < 0 then -i else i))))
  | .int, [.d (.int i)] => some ((.d (.int i)))
  | .int, [.d (.bl k)] => some ((.d (.int (b2i k))))
  | .max, [.d (.int i), .d (.int j)] => some ((.d (.int (if j > i then j else i))))
  | .min, [.d (.int i), .d (.int j)] => some ((.d (.int (if j < i then j else i))))
  | .gcd, [.d (.int i), .d (.int j)] => some ((.d (.int (Nat.gcd i.natAbs j.natAbs : Nat))))
  | .sum, [x] => ((asL M x).bind intsD).map fun is => .d (.int is.sum)
  | .all, [x] => ((asL M x).bind boolsD).map fun bs => .d (.bl (bs.all id))
  | .any, [x] => ((asL M x).bind boolsD).map fun bs => .d (.bl (bs.any id))
  | .tuple, [x] => (asS M x).map fun ds => .d (.tup ds)
  | .list, [x] => (asS M x).map fun ds => .l ds
  | _, _ => none
def isTy : Rv → Ty → Option Bool
  | .d (.int _), .int => some true
  | .d (.bl _), .int => some true
  | .d (.bl _), .bool => some true
  | .d (.str _), .str => some true
  | .d (.tup _), .tuple => some true
  | .l _, .list => some true
  | .m _ _ _, .dict => some true
  | .d (.vd _ _ _), .dict => some true
  | .d (.rl _), .list => some true
  | .d (.vl _), .list => some true
  | .d (.ref _), _ => none
  | _, _ => some false
def isTyM (M : Ar) (x : Rv) (t : Ty) : Option Bool := match x with
  | .d (.ref n) => match M[n]? with
    | some (.lst _) => some (decide (t = Ty.list))
    | some (.dct _ _ _) => some (decide (t = Ty.dict))
    | _ => none
  | x => isTy x t
def isTys (M : Ar) (x : Rv) : List Ty → Option Bool
  | [] => some false
  | t :: ts => match isTyM M x t with
    | some true => some true
    | some false => isTys M x ts
    | none => none
def method (m : Mth) (x : D) (xs : List D) : Md Rv := fun M => match x with
  | .ref n => match M[n]? with
    | some (.lst ds) => match m, xs with
      | .append, [y] => if ds.length < line then .ok (.d .non) (M.set n (.lst (ds ++ [y]))) else .stuck
      | .pop, [] => match ds.getLast? with
        | some y => .ok (.d y) (M.set n (.lst ds.dropLast))
        | none => .stuck
      | _, _ => .stuck
    | _ => .stuck
  | _ => .stuck
/-- behind a call: what the callee put into the arena is written no more; its places are dropped -/
def okOld (n : Nat) : Ar → Ar → Bool
  | [], _ => true
  | o :: os, o' :: os' => (o'.refsLt n || o'.eqb o) && okOld n os os'
  | _ :: _, [] => false
/-- a value with all places from b on told by value; none at av -/
def relD (M : Ar) (b av : Nat) : Nat → D → Option D
  | 0, _ => none
  | k + 1, .tup ds => (ds.mapM (relD M b av k)).map .tup
  | k + 1, .rl ds => (ds.mapM (relD M b av k)).map .rl
  | k + 1, .vl ds => (ds.mapM (relD M b av k)).map .vl
  | k + 1, .vd t ks vs => (vs.mapM (relD M b av k)).map (.vd t ks)
  | k + 1, .ref n => if n < b then some (.ref n) else if n = av then none else match M[n]? with
    | some (.lst ds) => (ds.mapM (relD M b av k)).map .vl
    | some (.dct t ks vs) => (vs.mapM (relD M b av k)).map (.vd t ks)
    | _ => none
  | _ + 1, d => some d
def relL (M : Ar) (b av : Nat) (ds : List D) : Option (List D) := if D.refsLt_all b ds then some ds else ds.mapM (relD M b av 30)
def relR (M : Ar) (b : Nat) : Rv → Option Rv
  | .d (.ref n) => if n < b then some (.d (.ref n)) else match M[n]? with
    | some (.lst ds) => (relL M b n ds).map .l
    | some (.dct t ks vs) => (relL M b n vs).map (.m t ks)
    | _ => none
  | .d d => if d.refsLt b then some (.d d) else (relD M b M.length 30 d).map .d
  | .l ds => (relL M b M.length ds).map .l
  | .m t ks vs => (relL M b M.length vs).map (.m t ks)
def trunc (M : Ar) (x : Out Rv) : Out Rv := match x with
  | .ok r M' => if M.length < M'.length && okOld M.length M M' then (match relR M' M.length r with
    | some r' => .ok r' (M'.take M.length)
    | none => .ok r M') else .ok r M'
  | x => x

/-- what a walk draws from: a list (f) or tuple (t) that stays, a list of the arena as it stands -/
inductive Src where
  | st (t : Bool) (ds : List D) | rf (n : Nat)
inductive Itv where
  | st (ds : List D) | one (n : Nat) | zip (a b : Src) | enum (n : Nat)
def lstAt (M : Ar) (n : Nat) : Option (List D) := match M[n]? with
  | some (.lst ds) => some ds
  | _ => none
def srcAll (M : Ar) : Src → Option (List D)
  | .st _ ds => some ds
  | .rf n => lstAt M n
def itLen (M : Ar) : Itv → Option Nat
  | .st ds => some ds.length
  | .one n => (lstAt M n).map (·.length)
  | .enum n => (lstAt M n).map (·.length)
  | .zip a b => match srcAll M a, srcAll M b with
    | some x, some y => some (min x.length y.length)
    | _, _ => none
def itNth (M : Ar) (i : Nat) : Itv → Option D
  | .st ds => ds[i]?
  | .one n => (lstAt M n).bind (·[i]?)
  | .enum n => ((lstAt M n).bind (·[i]?)).map fun d => .tup [.int (i : Nat), d]
  | .zip a b => match (srcAll M a).bind (·[i]?), (srcAll M b).bind (·[i]?) with
    | some x, some y => some (.tup [x, y])
    | _, _ => none
inductive Fl where
  | nx (e : Env) | rt (r : Rv) | bk (e : Env) | ct (e : Env)
def enumFrom (k : Nat) : List D → List D
  | [] => []
  | d :: ds => .tup [.int (k : Nat), d] :: enumFrom (k + 1) ds
def rangeL (lo : Int) : Nat → List D
  | 0 => []
  | n + 1 => .int lo :: rangeL (lo + 1) n
def small62 (i : Int) : Bool := -(2 ^ 62) ≤ i && decide (i < 2 ^ 62)
def keyable : D → Bool
  | .int _ => true
  | .str _ => true
  | _ => false
def inD (acc : List D) (d : D) : Bool := acc.any fun x => D.eqb x d
/-- each value once, as met -/
def metD (ds : List D) : List D := ds.foldl (fun acc d => if inD acc d = true then acc else acc ++ [d]) []
def lrange (i j : Int) : Option (List D) := if (small62 i && (small62 j && decide ((j - i).toNat ≤ line))) = true then some (rangeL i (j - i).toNat) else none
def op1 (o : Op1) (x : Rv) (M : Ar) : Option Rv := match o with
  | .lenset => match asS M x with
    | some ds => if (ds.all keyable && decide (ds.length ≤ 4000)) = true then some (.d (.int ((metD ds).length : Nat))) else none
    | none => none
  | .lrg => match x with
    | .d (.int j) => (lrange 0 j).map .l
    | _ => none
  | .trg => match x with
    | .d (.int j) => (lrange 0 j).map fun ds => .d (.tup ds)
    | _ => none
def op2 (o : Op2) (x y : Rv) (M : Ar) : Option Rv := match o with
  | .lrg2 => match x, y with
    | .d (.int i), .d (.int j) => (lrange i j).map .l
    | _, _ => none
  | .trg2 => match x, y with
    | .d (.int i), .d (.int j) => (lrange i j).map fun ds => .d (.tup ds)
    | _, _ => none
def asIt (x : Rv) (M : Ar) : Option Itv := match x with
  | .l ds => some (.st ds)
  | .d (.tup ds) => some (.st ds)
  | .d (.rl ds) => some (.st ds)
  | .d (.vl ds) => some (.st ds)
  | .d (.str cs) => if cs.length ≤ line then some (.st (cs.map fun c => .str [c])) else none
  | .d (.ref n) => match lstAt M n with
    | some _ => some (.one n)
    | none => none
  | _ => none
def rangeIt (xs : List Rv) (M : Ar) : Option Itv := match xs with
  | [.d (.int j)] => if small62 j then some ((.st (rangeL 0 j.toNat))) else none
  | [.d (.int i), .d (.int j)] => if small62 i && small62 j then some ((.st (rangeL i (j - i).toNat))) else none
  | _ => none
def zipD : List D → List D → List D
  | x :: xs, y :: ys => .tup [x, y] :: zipD xs ys
  | _, _ => []
def srcOf : Rv → Option Src
  | .l ds => some (.st false ds)
  | .d (.tup ds) => some (.st true ds)
  | .d (.rl ds) => some (.st false ds)
  | .d (.vl ds) => some (.st false ds)
  | .d (.ref n) => some (.rf n)
  | _ => none
def Src.isT : Src → Bool
  | .st t _ => t
  | .rf _ => false
def zipIt (x y : Rv) (M : Ar) : Option Itv := match srcOf x, srcOf y with
  | some a, some b => if ((srcAll M a).isSome && (srcAll M b).isSome) = true then some (match a, b with
    | .st _ a, .st _ b => .st (zipD a b)
    | a, b => .zip a b) else none
  | _, _ => none
def enumIt (x : Rv) (M : Ar) : Option Itv := match x with
  | .l ds => some (.st (enumFrom 0 ds))
  | .d (.rl ds) => some (.st (enumFrom 0 ds))
  | .d (.vl ds) => some (.st (enumFrom 0 ds))
  | .d (.ref n) => match lstAt M n with
    | some _ => some (.enum n)
    | none => none
  | _ => none
mutual
def tgt : Tg → D → Env → Option Env
  | .nm i, d, env => some (env.set i (some d))
  | .tp gs, .tup ds, env => tgts gs ds env
  | _, _, _ => none
def tgts : Tgs → List D → Env → Option Env
  | .nil, [], env => some env
  | .cons g gs, d :: ds, env => match tgt g d env with
    | some env' => tgts gs ds env'
    | none => none
  | _, _, _ => none
end
def compL (f : D → Md (Option D)) : List D → List D → Md (List D)
  | [], acc => ret acc.reverse
  | x :: xs, acc => bnd (f x) fun
    | some d => if acc.length < line then compL f xs (d :: acc) else stk
    | none => compL f xs acc
def compD (f : D → Md (Option D)) (y : Itv) : Nat → Nat → List D → Md (List D)
  | i, 0, acc => fun M => match itLen M y with
    | some l => if l ≤ i then .ok acc.reverse M else .stuck
    | none => .stuck
  | i, k + 1, acc => fun M => match itNth M i y with
    | some x => bnd (f x) (fun
      | some d => if acc.length < line then compD f y (i + 1) k (d :: acc) else stk
      | none => compD f y (i + 1) k acc) M
    | none => .stuck
def forL (f : D → Env → Md Fl) : List D → Env → Md Fl
  | [], env => ret (.nx env)
  | x :: xs, env => bnd (f x env) fun
    | .nx e => forL f xs e
    | .ct e => forL f xs e
    | .bk e => ret (.nx e)
    | .rt r => ret (.rt r)
def forD (f : D → Env → Md Fl) (y : Itv) : Nat → Nat → Env → Md Fl
  | i, 0, env => fun M => match itLen M y with
    | some l => if l ≤ i then .ok (.nx env) M else .stuck
    | none => .stuck
  | i, k + 1, env => fun M => match itNth M i y with
    | some x => bnd (f x env) (fun
      | .nx e => forD f y (i + 1) k e
      | .ct e => forD f y (i + 1) k e
      | .bk e => ret (.nx e)
      | .rt r => ret (.rt r)) M
    | none => .stuck
/-- an error out of a comprehension is not told -/
def noExc {α : Type} (x : Md α) : Md α := fun M => match x M with
  | .exc _ _ _ => .stuck
  | o => o
def whileF (c : Env → Md Bool) (f : Env → Md Fl) : Nat → Env → Md Fl
  | 0, _ => stk
  | n + 1, env => bnd (c env) fun
    | false => ret (.nx env)
    | true => bnd (f env) fun
      | .nx e => whileF c f n e
      | .ct e => whileF c f n e
      | .bk e => ret (.nx e)
      | .rt r => ret (.rt r)
def isAbs : Tm → Bool
  | .cst .non => true
  | _ => false
def partM (b : Bool) (x : Rv) : Md (Option Int) := if b then ret none else match x with
  | .d (.int i) => ret (some i)
  | _ => stk
def getV (env : Env) (i : Nat) : Md Rv := match env[i]? with
  | some (some d) => ret (.d d)
  | _ => stk
def isRefM (d : D) : Md Unit := fun M => match d with
  | .ref n => match lstAt M n with
    | some _ => .ok () M
    | none => .stuck
  | _ => .stuck
def compAll (f : D → Md (Option D)) : Itv → Md (List D)
  | .st ds => if ds.length ≤ line then compL f ds [] else stk
  | iv => bnd (opt fun M => itLen M iv) fun k => if k ≤ line then compD f iv 0 k [] else stk
def forAll_ (f : D → Env → Md Fl) (iv : Itv) (env : Env) : Md Fl := match iv with
  | .st ds => if ds.length ≤ line then forL f ds env else stk
  | iv => bnd (opt fun M => itLen M iv) fun k => if k ≤ line then forD f iv 0 k env else stk
def asB : Rv → Md Bool
  | .d (.bl b) => ret b
  | _ => stk
section
variable (F : Nat → List D → Md Rv) (fuel : Nat)
mutual
def sem : Tm → Env → Md Rv
  | .var i, env => getV env i
  | .cst d, _ => ret (.d d)
  | .neg a, env => bnd (sem a env) fun
    | .d (.int i) => ret (.d (.int (-i)))
    | _ => stk
  | .nt a, env => bnd (bnd (sem a env) asB) fun b => ret (.d (.bl (!b)))
  | .bin o a b, env => bnd (sem a env) fun x => bnd (sem b env) fun y => opt (binop o x y)
  | .cmp o a b, env => bnd (sem a env) fun x => bnd (sem b env) fun y => bnd (opt (cmpop o x y)) fun r => ret (.d (.bl r))
  | .chain o p a b c, env => bnd (sem a env) fun x => bnd (sem b env) fun y => bnd (opt (cmpop o x y)) fun
    | true => bnd (sem c env) fun z => bnd (opt (cmpop p y z)) fun r => ret (.d (.bl r))
    | false => ret (.d (.bl false))
  | .and a b, env => bnd (bnd (sem a env) asB) fun
    | true => bnd (bnd (sem b env) asB) fun r => ret (.d (.bl r))
    | false => ret (.d (.bl false))
  | .or a b, env => bnd (bnd (sem a env) asB) fun
    | true => ret (.d (.bl true))
    | false => bnd (bnd (sem b env) asB) fun r => ret (.d (.bl r))
  | .ite c a b, env => bnd (bnd (sem c env) asB) fun
    | true => sem a env
    | false => sem b env
  | .tup es, env => bnd (semEs es env) fun ds => if ds.length ≤ line then ret (.d (.tup ds)) else stk
  | .lst es, env => bnd (semEs es env) fun ds => if ds.length ≤ line then ret (.l ds) else stk
  | .idx a b, env => bnd (sem a env) fun x => bnd (sem b env) fun y => opt (index x y)
  | .slc a lo hi, env => bnd (sem a env) fun x => bnd (bnd (sem lo env) (partM (isAbs lo))) fun l => bnd (bnd (sem hi env) (partM (isAbs hi))) fun h => opt (slice x l h)
  | .call f es, env => fun M => trunc M (bnd (semEs es env) (fun ds => F f ds) M)
  | .blt b es, env => bnd (semRs es env) fun xs => opt (builtin b xs)
  | .isin a ts, env => bnd (sem a env) fun x => bnd (opt fun M => isTys M x ts) fun b => ret (.d (.bl b))
  | .comp own it g c e, env =>
    bnd (semIt it env) fun iv =>
      let f : D → Md (Option D) := fun d => match tgt g d (wipe env own) with
        | some env' => noExc (bnd (bnd (sem c env') asB) fun
          | true => bnd (bnd (sem e env') settle) fun y => ret (some y)
          | false => ret none)
        | none => stk
      bnd (compAll f iv) fun r => ret (.l r)
  | .meth m a es, env => bnd (bnd (sem a env) settle) fun x => bnd (isRefM x) fun _ => bnd (semEs es env) fun xs => method m x xs
  | .dict0 t, _ => ret (.m t [] [])
  | .op1 o a, env => bnd (sem a env) fun x => opt (op1 o x)
  | .op2 o a b, env => bnd (sem a env) fun x => bnd (sem b env) fun y => opt (op2 o x y)
  | .never, _ => stk
def semEs : Es → Env → Md (List D)
  | .nil, _ => ret []
  | .cons e es, env => bnd (bnd (sem e env) settle) fun d => bnd (semEs es env) fun ds => ret (d :: ds)
  | .star e es, env => bnd (sem e env) fun x => bnd (opt fun M => asS M x) fun xs => bnd (semEs es env) fun ds => ret (xs ++ ds)
  | .plc e es, env => bnd (bnd (sem e env) place) fun d => bnd (semEs es env) fun ds => ret (d :: ds)
def semRs : Es → Env → Md (List Rv)
  | .nil, _ => ret []
  | .cons e es, env => bnd (sem e env) fun d => bnd (semRs es env) fun ds => ret (d :: ds)
  | .star _ _, _ => stk
  | .plc _ _, _ => stk
def semIt : Itm → Env → Md Itv
  | .seq a, env => bnd (sem a env) fun x => opt (asIt x)
  | .rng es, env => bnd (semRs es env) fun xs => opt (rangeIt xs)
  | .zip a b, env => bnd (sem a env) fun x => bnd (sem b env) fun y => opt (zipIt x y)
  | .enum a, env => bnd (sem a env) fun x => opt (enumIt x)
end
def semB (t : Tm) (env : Env) : Md Bool := bnd (sem F t env) asB
def semV (t : Tm) (env : Env) : Md D := bnd (sem F t env) settle
def putAt (x y : Rv) (d : D) : Md Unit := fun M => match x, y with
  | .d (.ref n), .d (.int i) => match M[n]? with
    | some (.lst ds) => match ixD ds.length i with
      | some j => .ok () (M.set n (.lst (ds.set j d)))
      | none => .stuck
    | _ => .stuck
  | _, _ => .stuck
def sets : List Nat → List D → Env → Option Env
  | [], [], env => some env
  | j :: js, d :: ds, env => sets js ds (env.set j (some d))
  | _, _, _ => none
mutual
def exec : Stm → Env → Md Fl
  | .asg g e, env => bnd (semV F e env) fun d => match tgt g d env with
    | some env' => ret (.nx env')
    | none => stk
  | .asgP g e, env => bnd (bnd (sem F e env) place) fun d => match tgt g d env with
    | some env' => ret (.nx env')
    | none => stk
  | .par js es, env => bnd (semEs F es env) fun ds => match sets js ds env with
    | some env' => ret (.nx env')
    | none => stk
  | .put a i e, env => bnd (semV F e env) fun d => bnd (sem F a env) fun x => bnd (sem F i env) fun y => bnd (putAt x y d) fun _ => ret (.nx env)
  | .expr e, env => bnd (sem F e env) fun _ => ret (.nx env)
  | .ret e, env => bnd (sem F e env) fun r => ret (.rt r)
  | .retN, _ => ret (.rt (.d .non))
  | .ite c a b, env => bnd (semB F c env) fun
    | true => execs a env
    | false => execs b env
  | .for_ it g s, env => bnd (semIt F it env) fun iv =>
    let f : D → Env → Md Fl := fun d e => match tgt g d e with
      | some e' => execs s e'
      | none => stk
    forAll_ f iv env
  | .while_ c s, env => whileF (fun e => semB F c e) (fun e => execs s e) fuel env
  | .pass, env => ret (.nx env)
  | .brk, env => ret (.bk env)
  | .cont, env => ret (.ct env)
  | .never, _ => stk
def execs : Stms → Env → Md Fl
  | .nil, env => ret (.nx env)
  | .cons s r, env => bnd (exec s env) fun
    | .nx e => execs r e
    | f => ret f
end
end
/-- a def: how many slots its frame has, its body -/
structure Df where
  ar : Nat
  sl : Nat
  body : Stms
def retF : Fl → Md Rv
  | .nx _ => ret (.d .non)
  | .rt r => ret r
  | _ => stk
def runBody (F : Nat → List D → Md Rv) (fuel : Nat) (d : Df) (args : List D) : Md Rv :=
  if args.length = d.ar then bnd (execs F fuel d.body (args.map some ++ List.replicate (d.sl - args.length) none)) retF else stk
/-- the defs of a text, k calls deep -/
def Phi (fuel : Nat) (T : Nat → Option Df) : Nat → Nat → List D → Md Rv
  | 0, _, _ => stk
  | k + 1, f, args => match T f with
    | some d => runBody (Phi fuel T k) fuel d args
    | none => stk
end Q
end

section
set_option Elab.async false
set_option linter.all false
set_option maxRecDepth 100000
/-! How the interpreter's values stand in the abstract heap. -/
namespace Q
open PySem PySem.Spec PyProof.Rows L2

/-- a list that nobody writes -/
def FzL (K : PySem.W.Frag) (H : Hp) (a : Addr) (xs : List V) : Prop :=
  (∃ o, H a = some (.frz o (.lst xs))) ∨
    ∃ (o : Obj) (its : Array Value) (n : Nat), K.lookup a = some o ∧ o.cls = .type "list" ∧ o.dict = none ∧ o.data = .seq its n ∧ its.size ≤ sizeLine ∧ Vals xs its.toList
theorem FzL.sq {K : PySem.W.Frag} {H : Hp} {a : Addr} {xs : List V} (h : FzL K H a xs) : SqL K H a xs := by
  rcases h with ⟨o, h⟩ | h
  · exact .inl (.inr ⟨o, h⟩)
  · exact .inr h

/-- places of what is written, and what is written no more -/
structure Pl where
  at_ : List Addr
  fz : Addr → Prop
instance : Membership Addr Pl := ⟨fun ι a => a ∈ ι.at_ ∨ ι.fz a⟩
def Pl.add (ι : Pl) (a : Addr) : Pl := ⟨ι.at_ ++ [a], ι.fz⟩
def Pl.frz (ι : Pl) (a : Addr) : Pl := ⟨ι.at_, fun b => ι.fz b ∨ b = a⟩
theorem Pl.mem {ι : Pl} {a : Addr} : a ∈ ι ↔ a ∈ ι.at_ ∨ ι.fz a := Iff.rfl
theorem Pl.nin {ι : Pl} {a : Addr} (h : a ∉ ι) : a ∉ ι.at_ ∧ ¬ ι.fz a := ⟨fun z => h (.inl z), fun z => h (.inr z)⟩
theorem Pl.get_mem {ι : Pl} {n : Nat} {a : Addr} (h : ι.at_[n]? = some a) : a ∈ ι := .inl (List.mem_of_getElem? h)
def keyD : Key → D
  | .inl i => .int i
  | .inr s => .str s.cps.toList
def keysD (ks : List Key) : D := .tup (ks.map keyD)
mutual
inductive Rep (K : PySem.W.Frag) (ι : Pl) (H : Hp) : V → D → Prop
  | non : Rep K ι H .non .non
  | bl (b : Bool) : Rep K ι H (.bl b) (.bl b)
  | int (i : Int) : Rep K ι H (.int i) (.int i)
  | str (x : List Nat) : Rep K ι H (.str ⟨x.toArray⟩) (.str x)
  | tup {a : Addr} {vs : List V} {ds : List D} : SqT K H a vs → Reps K ι H vs ds → Rep K ι H (.ref a) (.tup ds)
  | rl {a : Addr} {vs : List V} {ds : List D} : FzL K H a vs → Reps K ι H vs ds → Rep K ι H (.ref a) (.rl ds)
  | vl {a : Addr} {vs : List V} {ds : List D} : ι.fz a → H a = some (.lst vs) → Reps K ι H vs ds → Rep K ι H (.ref a) (.vl ds)
  | vdK {a : Addr} {kv : List (Key × V)} {ks vs : List D} : ι.fz a → H a = some (.dK kv) → ks = kv.map (fun p => keyD p.1) → Reps K ι H (kv.map (·.2)) vs → Rep K ι H (.ref a) (.vd false ks vs)
  | vdT {a : Addr} {kv : List (List Key × V)} {ks vs : List D} : ι.fz a → H a = some (.dT kv) → ks = kv.map (fun p => keysD p.1) → Reps K ι H (kv.map (·.2)) vs → Rep K ι H (.ref a) (.vd true ks vs)
  | ref {a : Addr} {n : Nat} : ι.at_[n]? = some a → Rep K ι H (.ref a) (.ref n)
inductive Reps (K : PySem.W.Frag) (ι : Pl) (H : Hp) : List V → List D → Prop
  | nil : Reps K ι H [] []
  | cons {v : V} {vs : List V} {d : D} {ds : List D} : Rep K ι H v d → Reps K ι H vs ds → Reps K ι H (v :: vs) (d :: ds)
end

/-- what stands at an address of the arena -/
def RepO (K : PySem.W.Frag) (ι : Pl) (H : Hp) (a : Addr) : Ob → Prop
  | .lst ds => ∃ vs, H a = some (.lst vs) ∧ Reps K ι H vs ds
  | .dct false ks vs => ∃ kv : List (Key × V), H a = some (.dK kv) ∧ ks = kv.map (fun p => keyD p.1) ∧ Reps K ι H (kv.map (·.2)) vs
  | .dct true ks vs => ∃ kv : List (List Key × V), H a = some (.dT kv) ∧ ks = kv.map (fun p => keysD p.1) ∧ Reps K ι H (kv.map (·.2)) vs
  | .spn => False

structure Sim (K : PySem.W.Frag) (ι : Pl) (H : Hp) (M : Ar) : Prop where
  nd : ι.at_.Nodup
  len : ι.at_.length = M.length
  ob : ∀ (n : Nat) (a : Addr) (o : Ob), ι.at_[n]? = some a → M[n]? = some o → RepO K ι H a o
  dj : ∀ (n : Nat) (a : Addr), ι.at_[n]? = some a → ¬ ι.fz a
  fne : ∀ a, ι.fz a → H a ≠ none

/-- later -/
structure Ext (K : PySem.W.Frag) (ι : Pl) (H : Hp) (ι' : Pl) (H' : Hp) : Prop where
  pre : ∀ (n : Nat) (a : Addr), ι.at_[n]? = some a → ι'.at_[n]? = some a
  tup : ∀ (a : Addr) (xs : List V), SqT K H a xs → SqT K H' a xs
  fz : ∀ (a : Addr) (xs : List V), FzL K H a xs → FzL K H' a xs
  out : ∀ (a : Addr) (o : HO), H a = some o → a ∉ ι → H' a = some o ∧ a ∉ ι'
  there : ∀ (a : Addr), H a ≠ none → H' a ≠ none
  keep : ∀ (a : Addr) (o : HO), ι.fz a → H a = some o → ι'.fz a ∧ H' a = some o

section
variable {K : PySem.W.Frag} {ι ι' ι'' : Pl} {H H' H'' : Hp} {M : Ar}
theorem Ext.refl : Ext K ι H ι H := ⟨fun _ _ h => h, fun _ _ h => h, fun _ _ h => h, fun _ _ h n => ⟨h, n⟩, fun _ h => h, fun _ _ f h => ⟨f, h⟩⟩
theorem Ext.trans (a : Ext K ι H ι' H') (b : Ext K ι' H' ι'' H'') : Ext K ι H ι'' H'' :=
  ⟨fun n x h => b.pre n x (a.pre n x h), fun x y h => b.tup x y (a.tup x y h), fun x y h => b.fz x y (a.fz x y h),
    fun x o h n => let z := a.out x o h n; b.out x o z.1 z.2, fun x h => b.there x (a.there x h), fun x o f h => let z := a.keep x o f h; b.keep x o z.1 z.2⟩
mutual
theorem Rep.ext (e : Ext K ι H ι' H') : ∀ {v : V} {d : D}, Rep K ι H v d → Rep K ι' H' v d
  | _, _, .non => .non
  | _, _, .bl b => .bl b
  | _, _, .int i => .int i
  | _, _, .str x => .str x
  | _, _, .tup h r => .tup (e.tup _ _ h) (Reps.ext e r)
  | _, _, .rl h r => .rl (e.fz _ _ h) (Reps.ext e r)
  | _, _, .vl f h r => .vl (e.keep _ _ f h).1 (e.keep _ _ f h).2 (Reps.ext e r)
  | _, _, .vdK f h k r => .vdK (e.keep _ _ f h).1 (e.keep _ _ f h).2 k (Reps.ext e r)
  | _, _, .vdT f h k r => .vdT (e.keep _ _ f h).1 (e.keep _ _ f h).2 k (Reps.ext e r)
  | _, _, .ref h => .ref (e.pre _ _ h)
theorem Reps.ext (e : Ext K ι H ι' H') : ∀ {vs : List V} {ds : List D}, Reps K ι H vs ds → Reps K ι' H' vs ds
  | _, _, .nil => .nil
  | _, _, .cons h r => .cons (Rep.ext e h) (Reps.ext e r)
end
theorem Reps.length : ∀ {vs : List V} {ds : List D}, Reps K ι H vs ds → vs.length = ds.length
  | _, _, .nil => rfl
  | _, _, .cons _ r => by rw [List.length_cons, List.length_cons, Reps.length r]
theorem Reps.get : ∀ {vs : List V} {ds : List D} {i : Nat} {d : D}, Reps K ι H vs ds → ds[i]? = some d → ∃ v, vs[i]? = some v ∧ Rep K ι H v d
  | _, _, i, d, .nil, h => by simp at h
  | _, _, 0, d, .cons r _, h => by simp at h; subst h; exact ⟨_, rfl, r⟩
  | _, _, i + 1, d, .cons _ r, h => by
    obtain ⟨v, h1, h2⟩ := Reps.get (i := i) r (by simpa using h)
    exact ⟨v, by simpa using h1, h2⟩
theorem Reps.get' : ∀ {vs : List V} {ds : List D} {i : Nat} {v : V}, Reps K ι H vs ds → vs[i]? = some v → ∃ d, ds[i]? = some d ∧ Rep K ι H v d
  | _, _, i, d, .nil, h => by simp at h
  | _, _, 0, d, .cons r _, h => by simp at h; subst h; exact ⟨_, rfl, r⟩
  | _, _, i + 1, d, .cons _ r, h => by
    obtain ⟨v, h1, h2⟩ := Reps.get' (i := i) r (by simpa using h)
    exact ⟨v, by simpa using h1, h2⟩
theorem Reps.append : ∀ {vs ws : List V} {ds es : List D}, Reps K ι H vs ds → Reps K ι H ws es → Reps K ι H (vs ++ ws) (ds ++ es)
  | _, _, _, _, .nil, s => s
  | _, _, _, _, .cons h r, s => .cons h (Reps.append r s)
theorem Reps.take : ∀ {vs : List V} {ds : List D} (n : Nat), Reps K ι H vs ds → Reps K ι H (vs.take n) (ds.take n)
  | _, _, 0, _ => .nil
  | _, _, _ + 1, .nil => .nil
  | _, _, n + 1, .cons h r => .cons h (Reps.take n r)
theorem Reps.drop : ∀ {vs : List V} {ds : List D} (n : Nat), Reps K ι H vs ds → Reps K ι H (vs.drop n) (ds.drop n)
  | _, _, 0, r => r
  | _, _, _ + 1, .nil => .nil
  | _, _, n + 1, .cons _ r => Reps.drop n r
theorem Reps.set {v : V} {d : D} (h : Rep K ι H v d) : ∀ {vs : List V} {ds : List D} (n : Nat), Reps K ι H vs ds → Reps K ι H (vs.set n v) (ds.set n d)
  | _, _, _, .nil => .nil
  | _, _, 0, .cons _ r => .cons h r
  | _, _, n + 1, .cons q r => .cons q (Reps.set h n r)
theorem Reps.rep {vs : List V} {ds : List D} (h : Reps K ι H vs ds) : ∀ k : Nat, Reps K ι H (List.replicate k vs).flatten (List.replicate k ds).flatten
  | 0 => .nil
  | k + 1 => by
    rw [List.replicate_succ, List.replicate_succ, List.flatten_cons, List.flatten_cons]
    exact h.append (Reps.rep h k)
theorem Reps.split : ∀ {vs : List V} {ds es : List D}, Reps K ι H vs (ds ++ es) → ∃ v1 v2, vs = v1 ++ v2 ∧ Reps K ι H v1 ds ∧ Reps K ι H v2 es
  | vs, [], es, h => ⟨[], vs, rfl, .nil, h⟩
  | _, d :: ds, es, .cons h r => by
    obtain ⟨v1, v2, e, a, b⟩ := Reps.split r
    exact ⟨_ :: v1, v2, by rw [e]; rfl, .cons h a, b⟩
theorem Sim.look (S : Sim K ι H M) {n : Nat} {o : Ob} (h : M[n]? = some o) : ∃ a, ι.at_[n]? = some a ∧ RepO K ι H a o := by
  have hn : n < M.length := (List.getElem?_eq_some_iff.mp h).1
  have hi : n < ι.at_.length := by rw [S.len]; exact hn
  exact ⟨ι.at_[n], List.getElem?_eq_getElem hi, S.ob n _ o (List.getElem?_eq_getElem hi) h⟩
theorem RepO.ne {a : Addr} {o : Ob} (h : RepO K ι H a o) : H a ≠ none := by
  cases o with
  | lst ds => obtain ⟨vs, e, _⟩ := h; rw [e]; exact fun z => nomatch z
  | spn => exact False.elim h
  | dct t ks vs => cases t <;> (obtain ⟨vs, e, _⟩ := h; rw [e]; exact fun z => nomatch z)
theorem Sim.ne (S : Sim K ι H M) {a : Addr} (h : a ∈ ι) : H a ≠ none := by
  rcases h with h | h
  rotate_left
  · exact S.fne a h
  obtain ⟨n, hn, e⟩ := List.getElem_of_mem h
  have hm : n < M.length := by rw [← S.len]; exact hn
  exact (S.ob n a M[n] (by rw [List.getElem?_eq_getElem hn, e]) (List.getElem?_eq_getElem hm)).ne
theorem SqT.at {K : PySem.W.Frag} {a : Addr} {xs : List V} (h : SqT K H a xs) (hH : H' a = H a ∨ H a = none) : SqT K H' a xs := by
  rcases h with (h | ⟨o, h⟩) | h
  · rcases hH with e | e
    · exact .inl (.inl (e.trans h))
    · rw [e] at h; cases h
  · rcases hH with e | e
    · exact .inl (.inr ⟨o, e.trans h⟩)
    · rw [e] at h; cases h
  · exact .inr h
/-- a new object -/
theorem Ext.new {p : Addr} {o : HO} (hp : H p = none) : Ext K ι H ι (upd H p o) := by
  have ne : ∀ {a u}, H a = some u → a ≠ p := fun h => ne_of_none h hp
  refine ⟨fun _ _ h => h, fun a xs h => ?_, fun a xs h => ?_, fun a u h n => ⟨by rw [upd_ne (ne h)]; exact h, n⟩, fun a h => ?_, fun a u f h => ⟨f, by rw [upd_ne (ne h)]; exact h⟩⟩
  · rcases h with (h | ⟨o, h⟩) | h
    · exact .inl (.inl (by rw [upd_ne (ne h)]; exact h))
    · exact .inl (.inr ⟨o, by rw [upd_ne (ne h)]; exact h⟩)
    · exact .inr h
  · rcases h with ⟨o, h⟩ | h
    · exact .inl ⟨o, by rw [upd_ne (ne h)]; exact h⟩
    · exact .inr h
  · by_cases e : a = p
    · subst e; exact absurd hp h
    · rw [upd_ne e]; exact h
theorem RepO.ext (e : Ext K ι H ι' H') {a : Addr} {o : Ob} (h : RepO K ι H a o) (hH : H' a = H a) : RepO K ι' H' a o := by
  cases o with
  | lst ds => obtain ⟨vs, q, r⟩ := h; exact ⟨vs, hH.trans q, r.ext e⟩
  | spn => exact h
  | dct t ks vs => cases t <;> (obtain ⟨vs, q, k, r⟩ := h; exact ⟨vs, hH.trans q, k, r.ext e⟩)
theorem Sim.new {p : Addr} {o : HO} (S : Sim K ι H M) (hp : H p = none) : Sim K ι (upd H p o) M := by
  refine ⟨S.nd, S.len, fun n a u h1 h2 => ?_, S.dj, fun a f => (Ext.new (K := K) (ι := ι) hp).there a (S.fne a f)⟩
  have r := S.ob n a u h1 h2
  refine r.ext (Ext.new hp) (upd_ne fun e => ?_)
  subst e
  exact r.ne hp
/-- an object of the arena is written -/
theorem Ext.write {n : Nat} {a : Addr} {vs ws : List V} (S : Sim K ι H M) (hn : ι.at_[n]? = some a) (h : H a = some (.lst vs)) : Ext K ι H ι (upd H a (.lst ws)) := by
  refine ⟨fun _ _ h => h, fun b xs q => ?_, fun b xs q => ?_, fun b u q m => ⟨?_, m⟩, fun b q => ?_, fun b u f q => ⟨f, by rw [upd_ne fun e => by subst e; exact S.dj n _ hn f]; exact q⟩⟩
  · rcases q with (q | ⟨o, q⟩) | q
    · refine .inl (.inl ?_)
      rw [upd_ne fun e => by subst e; rw [h] at q; cases q]; exact q
    · refine .inl (.inr ⟨o, ?_⟩)
      rw [upd_ne fun e => by subst e; rw [h] at q; cases q]; exact q
    · exact .inr q
  · rcases q with ⟨o, q⟩ | q
    · refine .inl ⟨o, ?_⟩
      rw [upd_ne fun e => by subst e; rw [h] at q; cases q]; exact q
    · exact .inr q
  · rw [upd_ne fun e => by subst e; exact m (Pl.get_mem hn)]; exact q
  · by_cases e : b = a
    · subst e; rw [upd_same]; exact fun z => nomatch z
    · rw [upd_ne e]; exact q
theorem nodup_at {α : Type} : ∀ {l : List α} {i j : Nat} {a : α}, l.Nodup → l[i]? = some a → l[j]? = some a → i = j
  | [], i, j, a, _, h, _ => by simp at h
  | x :: l, 0, 0, a, _, _, _ => rfl
  | x :: l, 0, j + 1, a, nd, h1, h2 => by
    simp at h1 h2
    subst h1
    exact absurd (List.mem_of_getElem? h2) (List.nodup_cons.mp nd).1
  | x :: l, i + 1, 0, a, nd, h1, h2 => by
    simp at h1 h2
    subst h2
    exact absurd (List.mem_of_getElem? h1) (List.nodup_cons.mp nd).1
  | x :: l, i + 1, j + 1, a, nd, h1, h2 => by
    exact congrArg (· + 1) (nodup_at (a := a) (List.nodup_cons.mp nd).2 (by simpa using h1) (by simpa using h2))
theorem Sim.write {n : Nat} {a : Addr} {vs ws : List V} {ds : List D} (S : Sim K ι H M) (hn : ι.at_[n]? = some a) (h : H a = some (.lst vs)) (r : Reps K ι (upd H a (.lst ws)) ws ds) : Sim K ι (upd H a (.lst ws)) (M.set n (.lst ds)) := by
  refine ⟨S.nd, by rw [List.length_set]; exact S.len, fun m b u h1 h2 => ?_, S.dj, fun b f => (Ext.write S hn h).there b (S.fne b f)⟩
  by_cases e : m = n
  · subst e
    rw [hn] at h1; cases h1
    have hm : m < M.length := by rw [← S.len]; exact (List.getElem?_eq_some_iff.mp hn).1
    rw [List.getElem?_set_self hm] at h2
    cases h2
    exact ⟨ws, upd_same, r⟩
  · rw [List.getElem?_set_ne (Ne.symm e)] at h2
    exact (S.ob m b u h1 h2).ext (Ext.write S hn h) (upd_ne fun z => by subst z; exact e (nodup_at S.nd h1 hn))
/-- a new list gets its place in the arena -/
theorem Pl.add_get {n : Nat} {a b : Addr} (h : ι.at_[n]? = some b) : (ι.add a).at_[n]? = some b := by
  show (ι.at_ ++ [a])[n]? = _
  rw [List.getElem?_append_left (List.getElem?_eq_some_iff.mp h).1]; exact h
theorem Ext.place {ι₀ : Pl} {H₀ : Hp} {a : Addr} (e : Ext K ι₀ H₀ ι H) (h0 : H₀ a = none) : Ext K ι₀ H₀ (ι.add a) H := by
  refine ⟨fun n b h => Pl.add_get (e.pre n b h), e.tup, e.fz, fun b o h m => ⟨(e.out b o h m).1, fun z => ?_⟩, e.there, fun b o f h => e.keep b o f h⟩
  rcases z with z | z
  · rcases List.mem_append.mp z with z | z
    · exact (e.out b o h m).2 (.inl z)
    · have : b = a := by simpa using z
      subst this; rw [h0] at h; cases h
  · exact (e.out b o h m).2 (.inr z)
/-- a new list, a new dict is written no more -/
theorem Ext.freeze {ι₀ : Pl} {H₀ : Hp} {a : Addr} (e : Ext K ι₀ H₀ ι H) (h0 : H₀ a = none) : Ext K ι₀ H₀ (ι.frz a) H := by
  refine ⟨e.pre, e.tup, e.fz, fun b o h m => ⟨(e.out b o h m).1, fun z => ?_⟩, e.there, fun b o f h => ⟨.inl (e.keep b o f h).1, (e.keep b o f h).2⟩⟩
  rcases z with z | z | z
  · exact (e.out b o h m).2 (.inl z)
  · exact (e.out b o h m).2 (.inr z)
  · subst z; rw [h0] at h; cases h
/-- more places -/
structure Wid (ι ι' : Pl) : Prop where
  at_ : ∀ (n : Nat) (a : Addr), ι.at_[n]? = some a → ι'.at_[n]? = some a
  fz : ∀ a, ι.fz a → ι'.fz a
theorem Wid.add {a : Addr} : Wid ι (ι.add a) := ⟨fun _ _ h => Pl.add_get h, fun _ h => h⟩
theorem Wid.frz {a : Addr} : Wid ι (ι.frz a) := ⟨fun _ _ h => h, fun _ h => .inl h⟩
mutual
theorem Rep.places (e : Wid ι ι') : ∀ {v : V} {d : D}, Rep K ι H v d → Rep K ι' H v d
  | _, _, .non => .non
  | _, _, .bl b => .bl b
  | _, _, .int i => .int i
  | _, _, .str x => .str x
  | _, _, .tup h r => .tup h (Reps.places e r)
  | _, _, .rl h r => .rl h (Reps.places e r)
  | _, _, .vl f h r => .vl (e.fz _ f) h (Reps.places e r)
  | _, _, .vdK f h k r => .vdK (e.fz _ f) h k (Reps.places e r)
  | _, _, .vdT f h k r => .vdT (e.fz _ f) h k (Reps.places e r)
  | _, _, .ref h => .ref (e.at_ _ _ h)
theorem Reps.places (e : Wid ι ι') : ∀ {vs : List V} {ds : List D}, Reps K ι H vs ds → Reps K ι' H vs ds
  | _, _, .nil => .nil
  | _, _, .cons h r => .cons (Rep.places e h) (Reps.places e r)
end
theorem RepO.places (e : Wid ι ι') {a : Addr} {o : Ob} (h : RepO K ι H a o) : RepO K ι' H a o := by
  cases o with
  | lst ds => obtain ⟨vs, q, r⟩ := h; exact ⟨vs, q, r.places e⟩
  | spn => exact h
  | dct t ks vs => cases t <;> (obtain ⟨vs, q, k, r⟩ := h; exact ⟨vs, q, k, r.places e⟩)
theorem Sim.placeO {a : Addr} {ob : Ob} (S : Sim K ι H M) (ha : a ∉ ι) (r : RepO K ι H a ob) : Sim K (ι.add a) H (M ++ [ob]) := by
  refine ⟨?_, ?_, fun n b o h1 h2 => ?_, fun n b h1 => ?_, S.fne⟩
  · show (ι.at_ ++ [a]).Nodup
    rw [List.nodup_append]
    exact ⟨S.nd, by simp, fun x hx y hy z => by
      have : y = a := by simpa using hy
      subst this; subst z; exact ha (.inl hx)⟩
  · show (ι.at_ ++ [a]).length = _
    rw [List.length_append, List.length_append, S.len]; rfl
  · have h1 : (ι.at_ ++ [a])[n]? = some b := h1
    by_cases hn : n < ι.at_.length
    · rw [List.getElem?_append_left hn] at h1
      rw [List.getElem?_append_left (by rw [← S.len]; exact hn)] at h2
      exact (S.ob n b o h1 h2).places Wid.add
    · have hl : n < (ι.at_ ++ [a]).length := (List.getElem?_eq_some_iff.mp h1).1
      rw [List.length_append] at hl
      have e : n = ι.at_.length := by simp at hl; omega
      subst e
      rw [List.getElem?_append_right (Nat.le_refl _)] at h1
      rw [List.getElem?_append_right (by rw [S.len]; exact Nat.le_refl _), S.len] at h2
      simp at h1 h2
      subst h1; subst h2
      exact r.places Wid.add
  · have h1 : (ι.at_ ++ [a])[n]? = some b := h1
    by_cases hn : n < ι.at_.length
    · rw [List.getElem?_append_left hn] at h1
      exact S.dj n b h1
    · have hl : n < (ι.at_ ++ [a]).length := (List.getElem?_eq_some_iff.mp h1).1
      rw [List.length_append] at hl
      have e : n = ι.at_.length := by simp at hl; omega
      subst e
      rw [List.getElem?_append_right (Nat.le_refl _)] at h1
      simp at h1
      subst h1
      exact fun z => ha (.inr z)
theorem Sim.freeze {a : Addr} (S : Sim K ι H M) (ha : a ∉ ι) (hn : H a ≠ none) : Sim K (ι.frz a) H M := by
  refine ⟨S.nd, S.len, fun n b o h1 h2 => (S.ob n b o h1 h2).places Wid.frz, fun n b h1 z => ?_, fun b f => ?_⟩
  · rcases z with z | z
    · exact S.dj n b h1 z
    · subst z; exact ha (Pl.get_mem h1)
  · rcases f with f | f
    · exact S.fne b f
    · subst f; exact hn
theorem Sim.place {a : Addr} {vs : List V} {ds : List D} (S : Sim K ι H M) (ha : a ∉ ι) (h : H a = some (.lst vs)) (r : Reps K ι H vs ds) : Sim K (ι.add a) H (M ++ [.lst ds]) := S.placeO ha ⟨vs, h, r⟩
theorem Sim.at_ (S : Sim K ι H M) : ι.at_.length = M.length := S.len
/-- what is told of the names -/
def RepSt (K : PySem.W.Frag) (ι : Pl) (H : Hp) (σ : L2.St) (env : Env) : Prop := ∀ (i : Nat) (d : D), env[i]? = some (some d) → ∃ v, σ[i]? = some (some v) ∧ Rep K ι H v d
theorem RepSt.ext {σ : L2.St} {env : Env} (e : Ext K ι H ι' H') (r : RepSt K ι H σ env) : RepSt K ι' H' σ env := fun i d h => let ⟨v, h1, h2⟩ := r i d h; ⟨v, h1, h2.ext e⟩
end

/-- a result: H₀ the heap at the beginning -/
def RepR (K : PySem.W.Frag) (H₀ : Hp) (ι : Pl) (H : Hp) (v : V) : Rv → Prop
  | .d d => Rep K ι H v d
  | .l ds => ∃ a vs, v = .ref a ∧ H a = some (.lst vs) ∧ H₀ a = none ∧ a ∉ ι ∧ Reps K ι H vs ds
  | .m t ks vs => ∃ a, v = .ref a ∧ H₀ a = none ∧ a ∉ ι ∧ RepO K ι H a (.dct t ks vs)
theorem RepO.later {K : PySem.W.Frag} {ι ι' : Pl} {H H' : Hp} {a : Addr} {o : Ob} (e : Ext K ι H ι' H') (h : RepO K ι H a o) (n : a ∉ ι) : RepO K ι' H' a o ∧ a ∉ ι' := by
  have hn := h.ne
  cases ho : H a with
  | none => exact absurd ho hn
  | some u => exact ⟨h.ext e ((e.out a u ho n).1.trans ho.symm), (e.out a u ho n).2⟩
theorem RepR.ext {K : PySem.W.Frag} {H₀ : Hp} {ι ι' : Pl} {H H' : Hp} {v : V} {r : Rv} (e : Ext K ι H ι' H') (h : RepR K H₀ ι H v r) : RepR K H₀ ι' H' v r := by
  cases r with
  | d d => exact Rep.ext e h
  | l ds =>
    obtain ⟨a, vs, h1, h2, h3, h4, h5⟩ := h
    exact ⟨a, vs, h1, (e.out a _ h2 h4).1, h3, (e.out a _ h2 h4).2, h5.ext e⟩
  | m t ks vs =>
    obtain ⟨a, h1, h3, h4, h5⟩ := h
    exact ⟨a, h1, h3, (h5.later e h4).2, (h5.later e h4).1⟩
theorem RepR.back {K : PySem.W.Frag} {H₀ H₁ : Hp} {ι : Pl} {H : Hp} {v : V} {r : Rv} (h0 : ∀ a, H₁ a = none → H₀ a = none) (h : RepR K H₁ ι H v r) : RepR K H₀ ι H v r := by
  cases r with
  | d d => exact h
  | l ds =>
    obtain ⟨a, vs, h1, h2, h3, h4, h5⟩ := h
    exact ⟨a, vs, h1, h2, h0 a h3, h4, h5⟩
  | m t ks vs =>
    obtain ⟨a, h1, h3, h4, h5⟩ := h
    exact ⟨a, h1, h0 a h3, h4, h5⟩
theorem Ext.noneB {K : PySem.W.Frag} {ι ι' : Pl} {H H' : Hp} (e : Ext K ι H ι' H') {a : Addr} (h : H' a = none) : H a = none := by
  cases q : H a with
  | none => rfl
  | some o => exact absurd h (e.there a (by rw [q]; exact fun z => nomatch z))
end Q
end

section
set_option Elab.async false
set_option linter.all false
set_option maxRecDepth 100000
set_option maxHeartbeats 4000000
/-! Operators. -/
namespace Q
open PySem PySem.Spec PyProof.Rows L2

theorem line_le : (line : Nat) ≤ sizeLine := by show 1000000 ≤ sizeLine; decide
theorem line_lt : (line : Nat) < sizeLine := by show 1000000 < sizeLine; decide

section
variable {K : PySem.W.Frag} {ι : Pl} {H H₀ : Hp} {M : Ar}
theorem Rep.str_of {v : V} {x : List Nat} (h : Rep K ι H v (.str x)) : v = .str ⟨x.toArray⟩ := by cases h; rfl
theorem Rep.int_of {v : V} {i : Int} (h : Rep K ι H v (.int i)) : v = .int i := by cases h; rfl
theorem Rep.bl_of {v : V} {i : Bool} (h : Rep K ι H v (.bl i)) : v = .bl i := by cases h; rfl
theorem Rep.non_of {v : V} (h : Rep K ι H v .non) : v = .non := by cases h; rfl
theorem Rep.tup_of {v : V} {ds : List D} (h : Rep K ι H v (.tup ds)) : ∃ a vs, v = .ref a ∧ SqT K H a vs ∧ Reps K ι H vs ds := by cases h; exact ⟨_, _, rfl, by assumption, by assumption⟩
/-- a list that is written -/
theorem asL_of (S : Sim K ι H M) {v : V} {r : Rv} {ds : List D} (rr : RepR K H₀ ι H v r) (h : asL M r = some ds) : ∃ a vs, v = .ref a ∧ H a = some (.lst vs) ∧ Reps K ι H vs ds := by
  cases r with
  | m _ _ _ => cases h
  | l es =>
    cases h
    obtain ⟨a, vs, e, ha, _, _, q⟩ := rr
    exact ⟨a, vs, e, ha, q⟩
  | d d =>
    cases d with
    | vl es =>
      cases h
      cases (show Rep K ι H v (.vl ds) from rr) with
      | vl f h1 h2 => exact ⟨_, _, rfl, h1, h2⟩
    | ref n =>
      have h' : (match M[n]? with | some (.lst ds) => some ds | _ => none) = some ds := h
      cases hm : M[n]? with
      | none => rw [hm] at h'; cases h'
      | some o =>
        cases o with
        | dct t dks dvs => rw [hm] at h'; cases h'
        | spn => rw [hm] at h'; cases h'
        | lst es =>
          rw [hm] at h'; cases h'
          obtain ⟨a, ha, vs, q1, q2⟩ := S.look hm
          cases (show Rep K ι H v (.ref n) from rr) with
          | ref hr =>
            rw [ha] at hr; cases hr
            exact ⟨a, vs, rfl, q1, q2⟩
    | _ => cases h
/-- a list or a tuple that is read -/
theorem asS_of (S : Sim K ι H M) {v : V} {r : Rv} {ds : List D} (rr : RepR K H₀ ι H v r) (h : asS M r = some ds) : ∃ a vs, v = .ref a ∧ (SqL K H a vs ∨ SqT K H a vs) ∧ Reps K ι H vs ds := by
  cases r with
  | m _ _ _ => cases h
  | l es =>
    cases h
    obtain ⟨a, vs, e, ha, _, _, q⟩ := rr
    exact ⟨a, vs, e, .inl (SqL.of ha), q⟩
  | d d =>
    cases d with
    | vl es =>
      cases h
      cases (show Rep K ι H v (.vl ds) from rr) with
      | vl f h1 h2 => exact ⟨_, _, rfl, .inl (SqL.of h1), h2⟩
    | ref n =>
      have h' : (match M[n]? with | some (.lst ds) => some ds | _ => none) = some ds := h
      cases hm : M[n]? with
      | none => rw [hm] at h'; cases h'
      | some o =>
        cases o with
        | dct t dks dvs => rw [hm] at h'; cases h'
        | spn => rw [hm] at h'; cases h'
        | lst es =>
          rw [hm] at h'; cases h'
          obtain ⟨a, ha, vs, q1, q2⟩ := S.look hm
          cases (show Rep K ι H v (.ref n) from rr) with
          | ref hr =>
            rw [ha] at hr; cases hr
            exact ⟨a, vs, rfl, .inl (SqL.of q1), q2⟩
    | tup es =>
      cases h
      cases (show Rep K ι H v (.tup ds) from rr) with
      | tup h1 h2 => exact ⟨_, _, rfl, .inr h1, h2⟩
    | rl es =>
      cases h
      cases (show Rep K ι H v (.rl ds) from rr) with
      | rl h1 h2 => exact ⟨_, _, rfl, .inl h1.sq, h2⟩
    | _ => cases h
theorem asS_L (S : Sim K ι H M) {v : V} {r : Rv} {ds : List D} (rr : RepR K H₀ ι H v r) (h : asS M r = some ds) (hn : ∀ es, r ≠ .d (.tup es)) : ∃ a vs, v = .ref a ∧ SqL K H a vs ∧ Reps K ι H vs ds := by
  cases r with
  | m _ _ _ => cases h
  | l es =>
    cases h
    obtain ⟨a, vs, e, ha, _, _, q⟩ := rr
    exact ⟨a, vs, e, SqL.of ha, q⟩
  | d d =>
    cases d with
    | vl es =>
      cases h
      cases (show Rep K ι H v (.vl ds) from rr) with
      | vl f h1 h2 => exact ⟨_, _, rfl, SqL.of h1, h2⟩
    | ref n =>
      have h' : (match M[n]? with | some (.lst ds) => some ds | _ => none) = some ds := h
      cases hm : M[n]? with
      | none => rw [hm] at h'; cases h'
      | some o =>
        cases o with
        | dct t dks dvs => rw [hm] at h'; cases h'
        | spn => rw [hm] at h'; cases h'
        | lst es =>
          rw [hm] at h'; cases h'
          obtain ⟨a, ha, vs, q1, q2⟩ := S.look hm
          cases (show Rep K ι H v (.ref n) from rr) with
          | ref hr =>
            rw [ha] at hr; cases hr
            exact ⟨a, vs, rfl, SqL.of q1, q2⟩
    | tup es => exact absurd rfl (hn es)
    | rl es =>
      cases h
      cases (show Rep K ι H v (.rl ds) from rr) with
      | rl h1 h2 => exact ⟨_, _, rfl, h1.sq, h2⟩
    | _ => cases h
end

/-! ### data for == -/
theorem mapM_cons {α β : Type} {f : α → Option β} {x : α} {xs : List α} {ys : List β} (h : (x :: xs).mapM f = some ys) : ∃ y r, f x = some y ∧ xs.mapM f = some r ∧ ys = y :: r := by
  rw [List.mapM_cons] at h
  cases e : f x with
  | none => rw [e] at h; cases h
  | some y =>
    rw [e] at h
    cases e2 : xs.mapM f with
    | none => rw [e2] at h; cases h
    | some r => rw [e2] at h; cases h; exact ⟨y, r, rfl, rfl, rfl⟩
theorem mapM_all {α β : Type} {f : α → Option β} (P : β → Prop) : ∀ {xs : List α} {ys : List β}, xs.mapM f = some ys → (∀ x ∈ xs, ∀ y, f x = some y → P y) → ∀ y ∈ ys, P y
  | [], ys, h, _ => by
    rw [List.mapM_nil] at h
    cases h
    exact fun _ z => nomatch z
  | x :: xs, ys, h, q => by
    obtain ⟨y, r, e1, e2, rfl⟩ := mapM_cons h
    intro z hz
    rcases List.mem_cons.mp hz with rfl | hz
    · exact q x List.mem_cons_self _ e1
    · exact mapM_all P e2 (fun x hx => q x (List.mem_cons_of_mem _ hx)) z hz
theorem canAll {ps : List PyData} (h : ∀ p ∈ ps, p.canLay0 = true) : PyData.canLayAll0 ps = true := by
  induction ps with
  | nil => rfl
  | cons p ps ih =>
    show (p.canLay0 && PyData.canLayAll0 ps) = true
    rw [h p List.mem_cons_self, ih fun q hq => h q (List.mem_cons_of_mem _ hq)]; rfl
theorem depthAll_le {ps : List PyData} {k : Nat} (h : ∀ p ∈ ps, p.depth ≤ k) : PyData.depthAll ps ≤ k := by
  induction ps with
  | nil => exact Nat.zero_le _
  | cons p ps ih =>
    show max p.depth (PyData.depthAll ps) ≤ k
    exact Nat.max_le.mpr ⟨h p List.mem_cons_self, ih fun q hq => h q (List.mem_cons_of_mem _ hq)⟩
theorem toP_ok (M : Ar) : ∀ (k : Nat) (d : D) (p : PyData), toP k M d = some p → p.canLay0 = true ∧ p.depth ≤ k
  | 0, d, p, h => by simp [toP] at h
  | k + 1, d, p, h => by
    have ih := toP_ok M k
    have many : ∀ {ds : List D} {ps : List PyData}, ds.mapM (toP k M) = some ps → PyData.canLayAll0 ps = true ∧ PyData.depthAll ps ≤ k := fun {ds ps} q =>
      ⟨canAll (mapM_all _ q fun x _ y e => (ih x y e).1), depthAll_le (mapM_all _ q fun x _ y e => (ih x y e).2)⟩
    have lst : ∀ {ds : List D}, (ds.mapM (toP k M)).map PyData.list = some p → p.canLay0 = true ∧ p.depth ≤ k + 1 := fun {ds} q => by
      obtain ⟨ps, e, rfl⟩ := Option.map_eq_some_iff.mp q
      obtain ⟨a, b⟩ := many e
      exact ⟨a, Nat.succ_le_succ b⟩
    cases d with
    | non => simp [toP] at h; subst h; exact ⟨rfl, Nat.zero_le _⟩
    | bl b => simp [toP] at h; subst h; exact ⟨rfl, Nat.zero_le _⟩
    | int i => simp [toP] at h; subst h; exact ⟨rfl, Nat.zero_le _⟩
    | str x =>
      simp only [toP] at h
      split at h
      · rename_i hx
        cases h
        refine ⟨?_, Nat.zero_le _⟩
        show PyData.strOk ⟨x.toArray⟩ = true
        unfold PyData.strOk
        rw [List.all_toArray]; exact hx
      · cases h
    | tup ds =>
      simp only [toP] at h
      obtain ⟨ps, e, rfl⟩ := Option.map_eq_some_iff.mp h
      obtain ⟨a, b⟩ := many e
      exact ⟨a, Nat.succ_le_succ b⟩
    | rl ds => simp only [toP] at h; exact lst h
    | vl ds => simp only [toP] at h; exact lst h
    | vd t ks vs => simp [toP] at h
    | ref n =>
      simp only [toP] at h
      cases hm : M[n]? with
      | none => rw [hm] at h; cases h
      | some o =>
        cases o with
        | dct t dks dvs => rw [hm] at h; cases h
        | spn => rw [hm] at h; cases h
        | lst es => rw [hm] at h; exact lst h
section
variable {K : PySem.W.Frag} {ι : Pl} {H H₀ : Hp} {M : Ar}
theorem toP_dps (f : D → Option PyData) : ∀ {ds : List D} {vs : List V} {ps : List PyData}, (∀ d ∈ ds, ∀ v p, Rep K ι H v d → f d = some p → Dp K H v p) → Reps K ι H vs ds → ds.mapM f = some ps → DpAll K H vs ps
  | [], _, ps, _, .nil, h => by
    rw [List.mapM_nil] at h
    cases h
    exact .nil
  | d :: ds, _, ps, q, .cons r rs, h => by
    obtain ⟨y, r', e1, e2, rfl⟩ := mapM_cons h
    exact .cons (q d List.mem_cons_self _ _ r e1) (toP_dps f (fun d hd => q d (List.mem_cons_of_mem _ hd)) rs e2)
theorem toP_dp (S : Sim K ι H M) : ∀ (k : Nat) (d : D) (v : V) (p : PyData), Rep K ι H v d → toP k M d = some p → Dp K H v p
  | 0, d, v, p, _, h => by simp [toP] at h
  | k + 1, d, v, p, r, h => by
    have ih := toP_dp S k
    cases d with
    | non => simp [toP] at h; subst h; cases r; exact .non
    | bl b => simp [toP] at h; subst h; cases r; exact .bl b
    | int i => simp [toP] at h; subst h; cases r; exact .int i
    | str x =>
      simp only [toP] at h
      split at h
      · cases h; cases r; exact .str _
      · cases h
    | tup ds =>
      simp only [toP] at h
      obtain ⟨ps, e, rfl⟩ := Option.map_eq_some_iff.mp h
      cases r with
      | tup h1 h2 => exact .tup h1 (toP_dps _ (fun d _ v p => ih d v p) h2 e)
    | rl ds =>
      simp only [toP] at h
      obtain ⟨ps, e, rfl⟩ := Option.map_eq_some_iff.mp h
      cases r with
      | rl h1 h2 => exact .lst h1.sq (toP_dps _ (fun d _ v p => ih d v p) h2 e)
    | vd t ks vs => simp [toP] at h
    | vl ds =>
      simp only [toP] at h
      obtain ⟨ps, e, rfl⟩ := Option.map_eq_some_iff.mp h
      cases r with
      | vl f h1 h2 => exact .lst (SqL.of h1) (toP_dps _ (fun d _ v p => ih d v p) h2 e)
    | ref n =>
      simp only [toP] at h
      cases hm : M[n]? with
      | none => rw [hm] at h; cases h
      | some o =>
        cases o with
        | dct t dks dvs => rw [hm] at h; cases h
        | spn => rw [hm] at h; cases h
        | lst es =>
          rw [hm] at h
          obtain ⟨ps, e, rfl⟩ := Option.map_eq_some_iff.mp h
          obtain ⟨a, ha, vs, q1, q2⟩ := S.look hm
          cases r with
          | ref hr =>
            rw [ha] at hr; cases hr
            exact .lst (SqL.of q1) (toP_dps _ (fun d _ v p => ih d v p) q2 e)
theorem toPR_dp (S : Sim K ι H M) {v : V} {r : Rv} {p : PyData} (rr : RepR K H₀ ι H v r) (h : toPR M r = some p) : Dp K H v p := by
  cases r with
  | d d => exact toP_dp S 30 d v p rr h
  | m _ _ _ => cases h
  | l ds =>
    obtain ⟨ps, e, rfl⟩ := Option.map_eq_some_iff.mp h
    obtain ⟨a, vs, rfl, h1, _, _, q⟩ := rr
    exact .lst (SqL.of h1) (toP_dps _ (fun d _ v p => toP_dp S 29 d v p) q e)
theorem shaped_of {p : PyData} (h : p.canLay0 = true ∧ p.depth ≤ 30) : SeqAt.shaped p = true := by
  unfold SeqAt.shaped
  rw [h.1, decide_eq_true (show p.depth ≤ 64 by omega)]; rfl
theorem toPR_ok {r : Rv} {p : PyData} (h : toPR M r = some p) : p.canLay0 = true ∧ p.depth ≤ 30 := by
  cases r with
  | d d => exact toP_ok M 30 d p h
  | m _ _ _ => cases h
  | l ds =>
    obtain ⟨ps, e, rfl⟩ := Option.map_eq_some_iff.mp h
    exact ⟨canAll (mapM_all _ e fun x _ y e => (toP_ok M 29 x y e).1), Nat.succ_le_succ (depthAll_le (mapM_all _ e fun x _ y e => (toP_ok M 29 x y e).2))⟩
end

/-! ### two values -/
/-- the reading of an operator f that changes nothing -/
def rOp (K : PySem.W.Frag) (f : Rv → Rv → Ar → Option Rv) : R2 := fun x y H Q => ∃ H₁ H₂ ι M rx ry r, RepR K H₁ ι H x rx ∧ RepR K H₂ ι H y ry ∧ Sim K ι H M ∧ f rx ry M = some r ∧
  ∀ H' v, Ext K ι H ι H' → RepR K H ι H' v r → Sim K ι H' M → Q v H'
section
variable {X : Cx} {pins : List (Addr × Obj)} {s : Shared} {σ : L2.St} {H : Hp}
theorem op_weak {f : Value → Value → Sem Value} {r r' : R2} (h : OpR X f r) (w : ∀ x y H Q, r' x y H Q → r x y H Q) : OpR X f r' := fun pins s σ H x y v u Q I rx ry q => h pins s σ H x y v u Q I rx ry (w x y H Q q)
/-- a new list, a new tuple -/
theorem new_list {K : PySem.W.Frag} {ι : Pl} {H : Hp} {M : Ar} {Q : VK} {vs : List V} {ds : List D} (S : Sim K ι H M) (r : Reps K ι H vs ds) (q : ∀ H' v, Ext K ι H ι H' → RepR K H ι H' v (.l ds) → Sim K ι H' M → Q v H') :
    ∀ p, H p = none → Q (.ref p) (upd H p (.lst vs)) := fun p hp =>
  q _ _ (Ext.new hp) ⟨p, vs, rfl, upd_same, hp, fun z => S.ne z hp, r.ext (Ext.new hp)⟩ (S.new hp)
theorem new_tup {K : PySem.W.Frag} {ι : Pl} {H : Hp} {M : Ar} {Q : VK} {vs : List V} {ds : List D} (S : Sim K ι H M) (r : Reps K ι H vs ds) (q : ∀ H' v, Ext K ι H ι H' → RepR K H ι H' v (.d (.tup ds)) → Sim K ι H' M → Q v H') :
    ∀ p, H p = none → Q (.ref p) (upd H p (.tup vs)) := fun p hp =>
  q _ _ (Ext.new hp) (Rep.tup (SqT.of upd_same) (r.ext (Ext.new hp))) (S.new hp)

def bopA : Bop → Operator
  | .add => .Add | .sub => .Sub | .mul => .Mult | .div => .FloorDiv | .mod => .Mod | .pow => .Pow
theorem mulOk_ok {i j : Int} (h : mulOk i j = true) : CMulW i j := by
  have h : bits i + bits j < 900000 := of_decide_eq_true h
  unfold CMulW
  unfold bits at h
  omega
/-- once: the tuple itself -/
theorem tup_once (l : Addr) (us : Array Value) (n : Nat) (od : Option Addr) (sl : Array (Option Value)) (x : Int) (t : Tok) (h0 : (decide (x < -(2 ^ 63)) || decide (x ≥ 2 ^ 63)) = false) (h1 : (us.isEmpty || x == 1) = true) :
    Meets (Builtin.«tuple.__mul__» ⟨[.ref l, .int x t], []⟩) (fun _ R s => s.heap.get? l = some { cls := .type "tuple", dict := od, data := .seq us n, slots := sl } ∧ R (.ok (.ret (Value.ref l))) s) :=
  .of_wp fun prog w A R s h => by
    obtain ⟨hp, g, dr, tk, os⟩ := s
    obtain ⟨hl, h⟩ := h
    have fx := AutoSeq1.idx_int
    wp_walk using wpAny_loadPart' hl
    repeat (first
      | (refine wpAny_ite_false (decide_eq_false (by rw [h0]; exact Bool.false_ne_true)) ?_; wp_walk using wpAny_loadPart' hl)
      | (refine wpAny_ite_true (decide_eq_true (by rw [h1])) ?_; wp_walk using wpAny_loadPart' hl))
    exact ⟨_, rfl, h⟩
/-- a tuple once -/
theorem op_once {X : Cx} : OpR X (binaryOp .Mult) fun x y H Q => ∃ l xs, x = .ref l ∧ y = .int 1 ∧ SqT X.K H l xs ∧ Q (.ref l) H := by
  intro pins s σ H x y v u Q I rx ry h
  obtain ⟨l, xs, rfl, rfl, hT, q⟩ := h
  obtain rfl : v = Value.ref l := rx
  obtain ⟨t, rfl⟩ := (show ∃ t, u = Value.int 1 t from ry)
  obtain ⟨its, r, ⟨ob, ho, hc, n, hd⟩, hs⟩ := I.tuple hT
  obtain ⟨oc, od, dat, sl⟩ := ob
  simp only at hc hd
  subst hc hd
  refine wpAny_binaryOp_repeat_ref (T := "tuple") (by decide) ⟨_, ho, rfl⟩ (fun z => typeIs_int z 1 t) noFill_tuple_mul F.fills_int_mul F.slot_int_rmul repeat_tuple F.slot_int_index.lookup ?_
  refine call_meets F.slot_int_rmul (typeIs_int s 1 t) F.entry_int_rmul (F.args_int_rmul_2 _ _) (int_rmul_tuple 1 t l its.toArray n od sl) ⟨ho, rfl, ⟨_, ho, rfl⟩, ?_⟩
  exact call_meets F.slot_tuple_mul ⟨_, ho, rfl⟩ F.entry_tuple_mul (F.args_tuple_mul_2 _ _) (tup_once l its.toArray n od sl 1 t (by decide) (by simp)) ⟨ho, ⟨.ref l, H, I, rfl, q⟩⟩
theorem repS {α : Type} {k : Nat} {xs : List α} (h : xs.length * k ≤ line) : xs.length * k ≤ sizeLine := Nat.le_trans h line_le
theorem op_bin (o : Bop) : OpR X (binaryOp (bopA o)) (rOp X.K (binop o)) := by
  intro pins s σ H x y v u Q I rx ry h
  obtain ⟨H₁, H₂, ι, M, dx, dy, r, hx, hy, S, e, q⟩ := h
  have q0 : ∀ {w : V} {d : D}, Rep X.K ι H w d → r = .d d → Q w H := fun {w d} hw er => q H w Ext.refl (by rw [er]; exact hw) S
  -- ints
  have ii : ∀ i j, dx = .d (.int i) → dy = .d (.int j) → wpAny (model X.prog X.w) X.A (binaryOp (bopA o) v u) (EP X pins σ Q) X.xe s := by
    rintro i j rfl rfl
    have ex := Rep.int_of hx
    have ey := Rep.int_of hy
    subst ex ey
    have e' : binInt o i j = some r := e
    unfold binInt at e'
    clear e
    cases o with
    | add => cases e'; exact op_add pins s σ H _ _ v u Q I rx ry ⟨i, j, rfl, rfl, q0 (.int _) rfl⟩
    | sub => cases e'; exact op_sub pins s σ H _ _ v u Q I rx ry ⟨i, j, rfl, rfl, q0 (.int _) rfl⟩
    | mul =>
      simp only [binI] at e'
      by_cases hm : mulOk i j = true
      · rw [if_pos hm] at e'; cases e'
        exact op_mulW pins s σ H _ _ v u Q I rx ry ⟨i, j, rfl, rfl, mulOk_ok hm, q0 (.int _) rfl⟩
      · rw [if_neg hm] at e'; cases e'
    | div =>
      simp only [binI] at e'
      by_cases hm : (decide (0 < j) && decide (bits j < 9000)) = true
      · rw [if_pos hm] at e'; cases e'
        obtain ⟨h1, h2⟩ := Bool.and_eq_true_iff.mp hm
        have h2 : bits j < 9000 := of_decide_eq_true h2
        unfold bits at h2
        exact op_fdivW pins s σ H _ _ v u Q I rx ry ⟨i, j, rfl, rfl, ⟨of_decide_eq_true h1, by omega⟩, q0 (.int _) rfl⟩
      · rw [if_neg hm] at e'; cases e'
    | mod =>
      simp only [binI] at e'
      by_cases hm : j ≠ 0
      · rw [if_pos hm] at e'; cases e'
        exact op_modN pins s σ H _ _ v u Q I rx ry ⟨i, j, rfl, rfl, hm, q0 (.int _) rfl⟩
      · rw [if_neg hm] at e'; cases e'
    | pow =>
      simp only [binI] at e'
      by_cases hm : (decide (0 ≤ j) && decide ((bits i : Int) * j ≤ 1000000)) = true
      · rw [if_pos hm] at e'; cases e'
        obtain ⟨h1, h2⟩ := Bool.and_eq_true_iff.mp hm
        have h1 := of_decide_eq_true h1
        have h2 := of_decide_eq_true h2
        obtain ⟨t, rfl⟩ := (show ∃ t, v = Value.int i t from rx)
        obtain ⟨t', rfl⟩ := (show ∃ t, u = Value.int j t from ry)
        refine PyProof.Rows.pow_int h1 ?_ ⟨.int _, H, I.tok _, ⟨_, rfl⟩, q0 (.int _) rfl⟩
        have hb : (Builtin.Int.intBits i : Int) ≤ (bits i : Int) := by
          unfold Builtin.Int.intBits bits
          split <;> omega
        have : (Builtin.Int.intBits i : Int) * j ≤ (bits i : Int) * j := Int.mul_le_mul_of_nonneg_right hb h1
        omega
      · rw [if_neg hm] at e'; cases e'
  -- lists
  have ll : binLst o dx dy M = some r → wpAny (model X.prog X.w) X.A (binaryOp (bopA o) v u) (EP X pins σ Q) X.xe s := by
    clear e ii
    intro e
    cases o with
    | add =>
      have e : catL M dx dy = some r := e
      unfold catL at e
      cases e1 : asL M dx with
      | none => rw [e1] at e; cases e
      | some a =>
        rw [e1] at e
        cases e2 : asL M dy with
        | none => rw [e2] at e; cases e
        | some b =>
          rw [e2] at e
          simp only at e
          by_cases hl : a.length + b.length ≤ line
          · rw [if_pos hl] at e; cases e
            obtain ⟨p, vs, rfl, hp, rp⟩ := asL_of S hx e1
            obtain ⟨p2, vs2, rfl, hp2, rp2⟩ := asL_of S hy e2
            refine op_cat pins s σ H _ _ v u Q I rx ry ⟨p, p2, vs, vs2, rfl, rfl, hp, hp2, ?_, new_list S (rp.append rp2) q⟩
            rw [rp.length, rp2.length]; exact Nat.le_trans hl line_le
          · rw [if_neg hl] at e; cases e
    | mul =>
      have e : repL M dx dy = some r := e
      unfold repL at e
      cases e1 : asL M dx with
      | none => rw [e1] at e; cases e
      | some a =>
        rw [e1] at e
        cases dy with
        | l _ => cases e
        | m _ _ _ => cases e
        | d d2 =>
          cases d2 with
          | int k =>
            simp only at e
            by_cases hl : -1000000 < k ∧ k < 1000000 ∧ a.length * k.toNat ≤ line
            · rw [if_pos hl] at e; cases e
              obtain ⟨p, vs, rfl, hp, rp⟩ := asL_of S hx e1
              have ey := Rep.int_of hy
              subst ey
              refine op_rep pins s σ H _ _ v u Q I rx ry ⟨p, k, vs, rfl, rfl, hp, by omega, by omega, ?_, new_list S (rp.rep _) q⟩
              rw [rp.length]; exact repS hl.2.2
            · rw [if_neg hl] at e; cases e
          | _ => cases e
    | _ => cases e
  cases dx with
  | l a => exact ll e
  | m _ _ _ => exact ll e
  | d d1 =>
    cases d1 with
    | int i =>
      cases dy with
      | l b => exact ll e
      | m _ _ _ => exact ll e
      | d d2 =>
        cases d2 with
        | int j => exact ii i j rfl rfl
        | _ => exact ll e
    | str a =>
      cases dy with
      | l b => exact ll e
      | m _ _ _ => exact ll e
      | d d2 =>
        cases d2 with
        | str b =>
          clear ll ii
          have e : binStr o a b = some r := e
          cases o with
          | add =>
            simp only [binStr] at e
            by_cases hl : a.length + b.length ≤ line
            · rw [if_pos hl] at e; cases e
              have ex := Rep.str_of hx
              have ey := Rep.str_of hy
              subst ex ey
              refine op_add_str pins s σ H _ _ v u Q I rx ry ⟨_, _, rfl, rfl, ?_, q0 (d := .str (a ++ b)) ?_ rfl⟩
              · show (a.toArray.size + b.toArray.size : Nat) ≤ sizeLine
                rw [List.size_toArray, List.size_toArray]; exact Nat.le_trans hl line_le
              · have : (Str.append ⟨a.toArray⟩ ⟨b.toArray⟩) = (⟨(a ++ b).toArray⟩ : Str) := by
                  unfold Str.append; simp
                show Rep X.K ι H (.str (Str.append ⟨a.toArray⟩ ⟨b.toArray⟩)) _
                rw [this]; exact .str _
            · rw [if_neg hl] at e; cases e
          | _ => cases e
        | _ => exact ll e
    | tup a =>
      cases dy with
      | l b => exact ll e
      | m _ _ _ => exact ll e
      | d d2 =>
        cases d2 with
        | tup b =>
          clear ll ii
          have e : binTup o a b = some r := e
          cases o with
          | add =>
            simp only [binTup] at e
            by_cases hl : a.length + b.length ≤ line
            · rw [if_pos hl] at e; cases e
              obtain ⟨p, vs, rfl, hp, rp⟩ := Rep.tup_of hx
              obtain ⟨p2, vs2, rfl, hp2, rp2⟩ := Rep.tup_of hy
              refine op_catA pins s σ H _ _ v u Q I rx ry ⟨p, p2, vs, vs2, rfl, rfl, hp, hp2, ?_, fun z => ?_, fun z1 z2 => ?_, fun _ _ => new_tup S (rp.append rp2) q⟩
              · rw [rp.length, rp2.length]; exact Nat.le_trans hl line_le
              · subst z
                cases rp
                exact q0 (.tup hp2 rp2) rfl
              · subst z2
                cases rp2
                exact q0 (.tup hp rp) (by rw [List.append_nil])
            · rw [if_neg hl] at e; cases e
          | _ => cases e
        | int k =>
          clear ll ii
          have e : repT o a k = some r := e
          cases o with
          | mul =>
            simp only [repT] at e
            by_cases hl : a ≠ [] ∧ 1 ≤ k ∧ k ≤ 1000 ∧ a.length ≤ 1000
            · rw [if_pos hl] at e; cases e
              obtain ⟨p, vs, rfl, hp, rp⟩ := Rep.tup_of hx
              have ey := Rep.int_of hy
              subst ey
              by_cases h1 : k = 1
              · subst h1
                refine op_once pins s σ H _ _ v u Q I rx ry ⟨p, vs, rfl, rfl, hp, q0 (.tup hp rp) ?_⟩
                rw [show List.replicate (1 : Int).toNat a = [a] from rfl]; simp
              · refine op_repT pins s σ H _ _ v u Q I rx ry ⟨p, k, vs, rfl, rfl, hp, fun z => ?_, by omega, hl.2.2.1, by rw [rp.length]; exact hl.2.2.2, new_tup S (rp.rep k.toNat) q⟩
                subst z
                cases rp
                exact hl.1 rfl
            · rw [if_neg hl] at e; cases e
          | _ => cases e
        | _ => exact ll e
    | non => exact ll e
    | bl b => exact ll e
    | rl b => exact ll e
    | vl b => exact ll e
    | vd _ _ _ => exact ll e
    | ref n => exact ll e
end
end Q
end

section
set_option Elab.async false
set_option linter.all false
set_option maxRecDepth 100000
set_option maxHeartbeats 4000000
/-! Comparisons, items, slices. -/
namespace Q
open PySem PySem.Spec PyProof.Rows L2
section
variable {X : Cx}
/-- a comparison's reading -/
def rCp (K : PySem.W.Frag) (f : Rv → Rv → Ar → Option Bool) : R2 := fun x y H Q => ∃ H₁ H₂ ι M rx ry r, RepR K H₁ ι H x rx ∧ RepR K H₂ ι H y ry ∧ Sim K ι H M ∧ f rx ry M = some r ∧ Q (.bl r) H
def copA : Cop → CmpOp
  | .eq => .Eq | .ne => .NotEq | .lt => .Lt | .le => .LtE | .gt => .Gt | .ge => .GtE | .is_ => .Is | .isn => .IsNot | .in_ => .In | .nin => .NotIn
theorem cmpI_of {f : Int → Int → Bool} {rx ry : Rv} {r : Bool} (h : cmpI f rx ry = some r) : ∃ i j, rx = .d (.int i) ∧ ry = .d (.int j) ∧ r = f i j := by
  unfold cmpI at h
  split at h
  · cases h; exact ⟨_, _, rfl, rfl, rfl⟩
  · cases h
theorem isNon_of {K : PySem.W.Frag} {H₁ : Hp} {ι : Pl} {H : Hp} {v : V} {r : Rv} (h : RepR K H₁ ι H v r) : decide (v = .non) = isNon r := by
  cases r with
  | l ds => obtain ⟨a, vs, rfl, _⟩ := h; rfl
  | m t ks vs => obtain ⟨a, rfl, _⟩ := h; rfl
  | d d => cases (show Rep K ι H v d from h) <;> rfl
theorem eq_cases {rx ry : Rv} {M : Ar} {r : Bool} (h : cmpEq rx ry M = some r) : (∃ i j, rx = .d (.int i) ∧ ry = .d (.int j) ∧ r = decide (i = j)) ∨ eqR M rx ry = some r := by
  unfold cmpEq at h
  split at h
  · cases h; exact .inl ⟨_, _, rfl, rfl, rfl⟩
  · exact .inr h
theorem eqR_of {K : PySem.W.Frag} {ι : Pl} {H H₁ H₂ : Hp} {M : Ar} {x y : V} {rx ry : Rv} {r : Bool} (S : Sim K ι H M) (hx : RepR K H₁ ι H x rx) (hy : RepR K H₂ ι H y ry) (h : eqR M rx ry = some r) :
    ∃ d e, Dp K H x d ∧ Dp K H y e ∧ SeqAt.shaped d = true ∧ SeqAt.shaped e = true ∧ r = PyData.eqv d e := by
  unfold eqR at h
  cases e1 : toPR M rx with
  | none => rw [e1] at h; cases h
  | some a =>
    rw [e1] at h
    cases e2 : toPR M ry with
    | none => rw [e2] at h; cases h
    | some b =>
      rw [e2] at h; cases h
      exact ⟨a, b, toPR_dp S hx e1, toPR_dp S hy e2, shaped_of (toPR_ok e1), shaped_of (toPR_ok e2), rfl⟩
theorem in_run {neg : Bool} (hu : X.A.units + 65 < cLine) {pins : List (Addr × Obj)} {s : Shared} {σ : L2.St} {H : Hp} {x y : V} {v u : Value} {Q : VK} {ι : Pl} {H₁ H₂ : Hp} {M : Ar} {rx ry : Rv} {r : Bool} (I : Inv X pins σ H s) (r1 : RelV x v) (r2 : RelV y u)
    (S : Sim X.K ι H M) (hx : RepR X.K H₁ ι H x rx) (hy : RepR X.K H₂ ι H y ry) (h : inR M rx ry = some r) (q : Q (.bl (if neg then !r else r)) H) :
    wpAny (model X.prog X.w) X.A (compareOp (if neg then .NotIn else .In) v u) (EP X pins σ Q) X.xe s := by
  unfold inR at h
  cases e1 : toPR M rx with
  | none => rw [e1] at h; cases h
  | some a =>
    rw [e1] at h
    cases e2 : asS M ry with
    | none => rw [e2] at h; cases h
    | some ds =>
      rw [e2] at h
      simp only [Option.bind_some] at h
      cases e3 : ds.mapM (toP 29 M) with
      | none => rw [e3] at h; cases h
      | some ps =>
        rw [e3] at h
        cases h
        obtain ⟨as, ra⟩ := Dp.reads I a x v (toPR_dp S hx e1) r1
        obtain ⟨p, vs, rfl, hs, rp⟩ := asS_of S hy e2
        have da : DpAll X.K H vs ps := toP_dps _ (fun d _ v p => toP_dp S 29 d v p) rp e3
        have cl : PyData.canLayAll0 ps = true := canAll (mapM_all _ e3 fun x _ y e => (toP_ok M 29 x y e).1)
        have room : X.A.units + 1 + min (PyData.depthAll ps) a.depth < cLine := by
          have h1 := (toPR_ok e1).2
          have h2 : min (PyData.depthAll ps) a.depth ≤ a.depth := Nat.min_le_right _ _
          omega
        rcases hs with hs | hs
        · obtain ⟨bs, rb⟩ := Dp.reads I (.list ps) _ u (.lst hs da) r2
          cases neg with
          | false => exact SeqAt.in_list_reads rb ra cl (toPR_ok e1).1 room ⟨.bl _, H, I, rfl, q⟩
          | true => exact SeqAt.notIn_list_reads rb ra cl (toPR_ok e1).1 room ⟨.bl _, H, I, rfl, q⟩
        · obtain ⟨bs, rb⟩ := Dp.reads I (.tuple ps) _ u (.tup hs da) r2
          cases neg with
          | false => exact SeqAt.in_tuple_reads rb ra cl (toPR_ok e1).1 room ⟨.bl _, H, I, rfl, q⟩
          | true => exact SeqAt.notIn_tuple_reads rb ra cl (toPR_ok e1).1 room ⟨.bl _, H, I, rfl, q⟩
theorem eq0_cases {dx dy : Rv} {M : Ar} {r : Bool} (h : cmpEq0 dx dy M = some r) : cmpEq dx dy M = some r ∨ ∃ ds, dy = .l [] ∧ asL M dx = some ds ∧ r = ds.isEmpty := by
  unfold cmpEq0 at h
  split at h
  · cases e : asL M dx with
    | none => rw [e] at h; exact .inl h
    | some ds => rw [e] at h; cases h; exact .inr ⟨ds, rfl, rfl, rfl⟩
  · exact .inl h
theorem cmpIn_of {rx ry : Rv} {M : Ar} {r : Bool} (h : cmpIn rx ry M = some r) : inR M rx ry = some r := by
  unfold cmpIn at h
  split at h
  · cases h
  · exact h
theorem op_cmp (hu : X.A.units + 65 < cLine) (o : Cop) : OpR X (compareOp (copA o)) (rCp X.K (cmpop o)) := by
  intro pins s σ H x y v u Q I rx ry h
  obtain ⟨H₁, H₂, ι, M, dx, dy, r, hx, hy, S, e, q⟩ := h
  cases o with
  | lt =>
    obtain ⟨i, j, rfl, rfl, rfl⟩ := cmpI_of (show cmpI _ dx dy = some r from e)
    exact op_lt pins s σ H x y v u Q I rx ry ⟨i, j, Rep.int_of hx, Rep.int_of hy, q⟩
  | le =>
    obtain ⟨i, j, rfl, rfl, rfl⟩ := cmpI_of (show cmpI _ dx dy = some r from e)
    exact op_le pins s σ H x y v u Q I rx ry ⟨i, j, Rep.int_of hx, Rep.int_of hy, q⟩
  | gt =>
    obtain ⟨i, j, rfl, rfl, rfl⟩ := cmpI_of (show cmpI _ dx dy = some r from e)
    exact op_gt pins s σ H x y v u Q I rx ry ⟨i, j, Rep.int_of hx, Rep.int_of hy, q⟩
  | ge =>
    obtain ⟨i, j, rfl, rfl, rfl⟩ := cmpI_of (show cmpI _ dx dy = some r from e)
    exact op_ge pins s σ H x y v u Q I rx ry ⟨i, j, Rep.int_of hx, Rep.int_of hy, q⟩
  | eq =>
    rcases eq0_cases (show cmpEq0 dx dy M = some r from e) with e | ⟨ds, rfl, e1, rfl⟩
    rotate_left
    · obtain ⟨a, vs, rfl, ha, rp⟩ := asL_of S hx e1
      obtain ⟨b, ws, rfl, hb, _, _, rq⟩ := hy
      obtain rfl : v = Value.ref a := rx
      obtain rfl : u = Value.ref b := ry
      cases rq
      obtain ⟨its, rv, p1, _⟩ := I.list (SqL.of ha)
      obtain ⟨its2, rv2, p2, _⟩ := I.list (SqL.of hb)
      have l1 : its.length = ds.length := by rw [← rv.length, rp.length]
      have l2 : its2 = [] := List.eq_nil_of_length_eq_zero (by rw [← rv2.length]; rfl)
      subst l2
      cases ds with
      | nil =>
        have l3 : its = [] := List.eq_nil_of_length_eq_zero l1
        subst l3
        exact SeqAt.eq_listAt (e := fun _ => true) p1.isList p2.isList rfl (by omega) (fun j h1 _ => absurd h1 (by simp)) ⟨.bl true, H, I, rfl, q⟩
      | cons d ds =>
        refine SeqAt.eq_list_lengthsAt p1.isList p2.isList ?_ (by omega) ⟨.bl false, H, I, rfl, q⟩
        rw [List.length_cons] at l1
        simp [l1]
    rcases eq_cases e with ⟨i, j, rfl, rfl, rfl⟩ | e
    · refine op_eq pins s σ H x y v u Q I rx ry ⟨by rw [Rep.int_of hx, Rep.int_of hy]; rfl, ?_⟩
      rw [Rep.int_of hx, Rep.int_of hy]
      have : decide (V.int i = V.int j) = decide (i = j) := by rw [dec_int, Bool.beq_eq_decide_eq]
      rw [this]; exact q
    · obtain ⟨d, e', h1, h2, h3, h4, rfl⟩ := eqR_of S hx hy e
      exact op_eqD (by omega) pins s σ H x y v u Q I rx ry ⟨d, e', h1, h2, h3, h4, q⟩
  | ne =>
    obtain ⟨r', e2, rfl⟩ := Option.map_eq_some_iff.mp (show (cmpEq dx dy M).map (!·) = some r from e)
    clear e
    rcases eq_cases e2 with ⟨i, j, rfl, rfl, rfl⟩ | e
    · refine op_ne pins s σ H x y v u Q I rx ry ⟨by rw [Rep.int_of hx, Rep.int_of hy]; rfl, ?_⟩
      rw [Rep.int_of hx, Rep.int_of hy]
      have : decide (V.int i = V.int j) = decide (i = j) := by rw [dec_int, Bool.beq_eq_decide_eq]
      rw [this]; exact q
    · obtain ⟨d, e', h1, h2, h3, h4, rfl⟩ := eqR_of S hx hy e
      exact op_neD (by omega) pins s σ H x y v u Q I rx ry ⟨d, e', h1, h2, h3, h4, q⟩
  | is_ =>
    have e : (if isNon dy then some (isNon dx) else none) = some r := e
    by_cases hn : isNon dy = true
    · rw [if_pos hn] at e; cases e
      rw [← isNon_of hy] at hn
      refine op_isN pins s σ H x y v u Q I rx ry ⟨of_decide_eq_true hn, ?_⟩
      rw [isNon_of hx]; exact q
    · rw [if_neg hn] at e; cases e
  | isn =>
    obtain ⟨r', e2, rfl⟩ := Option.map_eq_some_iff.mp (show (cmpIs dx dy).map (!·) = some r from e)
    clear e
    have e : (if isNon dy then some (isNon dx) else none) = some r' := e2
    by_cases hn : isNon dy = true
    · rw [if_pos hn] at e; cases e
      rw [← isNon_of hy] at hn
      refine op_notN pins s σ H x y v u Q I rx ry ⟨of_decide_eq_true hn, ?_⟩
      rw [isNon_of hx]; exact q
    · rw [if_neg hn] at e; cases e
  | in_ => exact in_run (neg := false) hu I rx ry S hx hy (cmpIn_of e) q
  | nin =>
    obtain ⟨r', e2, rfl⟩ := Option.map_eq_some_iff.mp (show (cmpIn dx dy M).map (!·) = some r from e)
    exact in_run (neg := true) hu I rx ry S hx hy (cmpIn_of e2) q

/-! ### items, slices -/
theorem ixN_same (n : Nat) (i : Int) : L2.ixN n i = ixD n i := rfl
theorem at_same {α : Type} (xs : List α) (i : Int) : L2.atI xs i = atD xs i := by
  unfold L2.atI atD
  rw [ixN_same]
  cases ixD xs.length i <;> rfl
theorem Reps.at_ {K : PySem.W.Frag} {ι : Pl} {H : Hp} {vs : List V} {ds : List D} {i : Int} {d : D} (r : Reps K ι H vs ds) (h : atD ds i = some d) : ∃ v, L2.atI vs i = some v ∧ Rep K ι H v d := by
  rw [at_same]
  unfold atD at h ⊢
  rw [r.length]
  cases e : ixD ds.length i with
  | none => rw [e] at h; cases h
  | some j => rw [e] at h; exact r.get h
theorem ix_ok : IxR X (rOp X.K index) := by
  intro ev es pins s σ H x y v u Q I rx ry h hplain
  obtain ⟨H₁, H₂, ι, M, dx, dy, r, hx, hy, S, e, q⟩ := h
  have q0 : ∀ {w : V} {d : D}, Rep X.K ι H w d → r = .d d → Q w H := fun {w d} hw er => q H w Ext.refl (by rw [er]; exact hw) S
  unfold index at e
  cases dy with
  | l _ => cases e
  | m _ _ _ => cases e
  | d dy =>
    cases dy with
    | int i =>
      have ey := Rep.int_of hy
      subst ey
      simp only at e
      have sq : (match (asS M dx).bind (atD · i) with | some d => some (Rv.d d) | none => none) = some r → ∃ o, X.A = X.A ∧ True ∧ ∃ a vs d w, x = .ref a ∧ (SqL X.K H a vs ∨ SqT X.K H a vs) ∧ L2.atI vs i = some w ∧ Rep X.K ι H w d ∧ r = .d d ∧ o = d := by
        intro e
        cases e1 : asS M dx with
        | none => rw [e1] at e; cases e
        | some ds =>
          rw [e1] at e
          have e : (match atD ds i with | some d => some (Rv.d d) | none => none) = some r := e
          cases e2 : atD ds i with
          | none => rw [e2] at e; cases e
          | some d =>
            rw [e2] at e; cases e
            obtain ⟨a, vs, rfl, hs, rp⟩ := asS_of S hx e1
            obtain ⟨w, h1, h2⟩ := rp.at_ e2
            exact ⟨d, rfl, trivial, a, vs, d, w, rfl, hs, h1, h2, rfl, rfl⟩
      have go : (∃ o, X.A = X.A ∧ True ∧ ∃ a vs d w, x = .ref a ∧ (SqL X.K H a vs ∨ SqT X.K H a vs) ∧ L2.atI vs i = some w ∧ Rep X.K ι H w d ∧ r = .d d ∧ o = d) → rIx X.K x (.int i) H Q := by
        rintro ⟨_, _, _, a, vs, d, w, rfl, hs, h1, h2, h3, _⟩
        rcases hs with hs | hs
        · exact .inl ⟨a, vs, i, w, rfl, rfl, hs, h1, q0 h2 h3⟩
        · exact .inr (.inl ⟨a, vs, i, w, rfl, rfl, hs, h1, q0 h2 h3⟩)
      refine ix_seq ev es pins s σ H x (.int i) v u Q I rx ry ?_ hplain
      cases dx with
      | l _ => exact go (sq e)
      | m _ _ _ => exact go (sq e)
      | d dx =>
        cases dx with
        | str cs =>
          have e : (match (if cs.length ≤ line then atD cs i else none) with | some c => some (Rv.d (.str [c])) | none => none) = some r := e
          by_cases hl : cs.length ≤ line
          · rw [if_pos hl] at e
            cases e2 : atD cs i with
            | none => rw [e2] at e; cases e
            | some c =>
              rw [e2] at e; cases e
              have ex := Rep.str_of hx
              subst ex
              exact .inr (.inr ⟨_, i, c, rfl, rfl, by show (cs.toArray.size : Nat) ≤ sizeLine; rw [List.size_toArray]; exact Nat.le_trans hl line_le, by rw [at_same]; simpa using e2, q0 (d := .str [c]) (.str [c]) rfl⟩)
          · rw [if_neg hl] at e; cases e
        | _ => exact go (sq e)
    | _ => cases e
theorem sIx_same (n d : Nat) (o : Option Int) : HT.sIx n d o = sIxD n d o := by
  cases o with
  | none => rfl
  | some i => rfl
theorem Reps.cut {K : PySem.W.Frag} {ι : Pl} {H : Hp} {vs : List V} {ds : List D} (r : Reps K ι H vs ds) (lo hi : Option Int) : Reps K ι H (cutV vs lo hi) (cutD ds lo hi) := by
  unfold cutV cutD
  rw [sIx_same, sIx_same, r.length]
  exact (r.drop _).take _
/-- the reading of a slice -/
def rSl (K : PySem.W.Frag) : V → Option Int → Option Int → Hp → VK → Prop := fun x lo hi H Q => ∃ H₁ ι M rx r, RepR K H₁ ι H x rx ∧ Sim K ι H M ∧ slice rx lo hi M = some r ∧
  ∀ H' v, Ext K ι H ι H' → RepR K H ι H' v r → Sim K ι H' M → Q v H'
theorem sl_ok : SlR X (rSl X.K) := by
  intro pins s σ H x v vl vu lo hi sl Q I rx hs pl pu h
  obtain ⟨H₁, ι, M, dx, r, hx, S, e, q⟩ := h
  have q0 : ∀ {w : V} {d : D}, Rep X.K ι H w d → r = .d d → Q w H := fun {w d} hw er => q H w Ext.refl (by rw [er]; exact hw) S
  have ls : (match asS M dx with | some ds => some (Rv.l (cutD ds lo hi)) | none => none) = some r → (∀ es, dx ≠ .d (.tup es)) → ∃ T id, typeLookup (.type T) "__getitem__" = pure (some (.builtin id)) ∧ s.TypeIs v T ∧ wpAny (model X.prog X.w) X.A (getItem v (.ref sl)) (EP X pins σ Q) X.xe s := by
    intro e hn
    cases e1 : asS M dx with
    | none => rw [e1] at e; cases e
    | some ds =>
      rw [e1] at e; cases e
      obtain ⟨a, vs, rfl, h1, rp⟩ := asS_L S hx e1 hn
      exact sl_list pins s σ H _ v vl vu lo hi sl Q I rx hs pl pu ⟨a, vs, rfl, h1, new_list S (rp.cut lo hi) q⟩
  cases dx with
  | l a => exact ls e fun _ z => nomatch z
  | m _ _ _ => exact ls e fun _ z => nomatch z
  | d dx =>
    cases dx with
    | tup ds =>
      have e : some (Rv.d (.tup (cutD ds lo hi))) = some r := e
      cases e
      obtain ⟨a, vs, rfl, h1, rp⟩ := Rep.tup_of hx
      refine sl_tupA pins s σ H _ v vl vu lo hi sl Q I rx hs pl pu ⟨a, vs, rfl, h1, fun hw => ?_, fun hw => new_tup S (rp.cut lo hi) q⟩
      refine q0 (.tup h1 ?_) rfl
      have : cutV vs lo hi = vs := by
        unfold cutV
        rw [hw.1, hw.2, List.drop_zero, Nat.sub_zero, List.take_length]
      rw [← this]
      exact rp.cut lo hi
    | str cs =>
      have e : (if cs.length ≤ line then some (Rv.d (.str (cutD cs lo hi))) else none) = some r := e
      by_cases hl : cs.length ≤ line
      · rw [if_pos hl] at e; cases e
        have ex := Rep.str_of hx
        subst ex
        refine sl_str pins s σ H _ v vl vu lo hi sl Q I rx hs pl pu ⟨_, rfl, by show (cs.toArray.size : Nat) ≤ sizeLine; rw [List.size_toArray]; exact Nat.le_trans hl line_le, q0 (d := .str (cutD cs lo hi)) ?_ rfl⟩
        have : cutS ⟨cs.toArray⟩ lo hi = ⟨(cutD cs lo hi).toArray⟩ := by
          unfold cutS cutD
          rw [sIx_same, sIx_same]
          show (⟨((cs.toArray.toList.drop (sIxD cs.toArray.size 0 lo)).take _).toArray⟩ : Str) = _
          rw [List.size_toArray]
          rfl
        rw [this]
        exact .str _
      · rw [if_neg hl] at e; cases e
    | non => exact ls e fun _ z => nomatch z
    | bl b => exact ls e fun _ z => nomatch z
    | int b => exact ls e fun _ z => nomatch z
    | rl b => exact ls e fun _ z => nomatch z
    | vl b => exact ls e fun _ z => nomatch z
    | vd _ _ _ => exact ls e fun _ z => nomatch z
    | ref b => exact ls e fun _ z => nomatch z
end
end Q
end

section
set_option Elab.async false
set_option linter.all false
set_option maxRecDepth 100000
set_option maxHeartbeats 4000000
/-! Built-in functions, isinstance, methods, stores. -/
namespace Q
open PySem PySem.Spec PyProof.Rows L2

/-- the arguments of a built-in -/
inductive RepRs (K : PySem.W.Frag) (ι : Pl) (H : Hp) : List V → List Rv → Prop
  | nil : RepRs K ι H [] []
  | cons {H₁ : Hp} {v : V} {vs : List V} {r : Rv} {rs : List Rv} : RepR K H₁ ι H v r → RepRs K ι H vs rs → RepRs K ι H (v :: vs) (r :: rs)
section
variable {K : PySem.W.Frag} {ι : Pl} {H : Hp} {M : Ar}
theorem RepRs.one {vs : List V} {r : Rv} (h : RepRs K ι H vs [r]) : ∃ v H₁, vs = [v] ∧ RepR K H₁ ι H v r := by
  cases h with
  | cons h t => cases t; exact ⟨_, _, rfl, h⟩
theorem RepRs.two {vs : List V} {r q : Rv} (h : RepRs K ι H vs [r, q]) : ∃ v w H₁ H₂, vs = [v, w] ∧ RepR K H₁ ι H v r ∧ RepR K H₂ ι H w q := by
  cases h with
  | cons h t =>
    cases t with
    | cons h2 t => cases t; exact ⟨_, _, _, _, rfl, h, h2⟩
theorem Reps.ints_ : ∀ {vs : List V} {ds : List D} {is : List Int}, Reps K ι H vs ds → intsD ds = some is → vs = is.map V.int
  | _, _, is, .nil, h => by cases h; rfl
  | v :: vs, d :: ds, is, .cons r rs, h => by
    cases d with
    | int i =>
      have h : (match intsD ds with | some r => some (i :: r) | none => none) = some is := h
      cases e : intsD ds with
      | none => rw [e] at h; cases h
      | some r' =>
        rw [e] at h; cases h
        rw [Rep.int_of r, Reps.ints_ rs e]; rfl
    | _ => cases h
theorem Reps.bools_ : ∀ {vs : List V} {ds : List D} {is : List Bool}, Reps K ι H vs ds → boolsD ds = some is → vs = is.map V.bl
  | _, _, is, .nil, h => by cases h; rfl
  | v :: vs, d :: ds, is, .cons r rs, h => by
    cases d with
    | bl i =>
      have h : (match boolsD ds with | some r => some (i :: r) | none => none) = some is := h
      cases e : boolsD ds with
      | none => rw [e] at h; cases h
      | some r' =>
        rw [e] at h; cases h
        rw [Rep.bl_of r, Reps.bools_ rs e]; rfl
    | _ => cases h
end
/-- the reading of a built-in -/
def rBi (K : PySem.W.Frag) (b : Blt) : List V → Hp → VK → Prop := fun vs H Q => ∃ ι M rs r, RepRs K ι H vs rs ∧ Sim K ι H M ∧ builtin b rs M = some r ∧
  ∀ H' v, Ext K ι H ι H' → RepR K H ι H' v r → Sim K ι H' M → Q v H'
def bltA : Blt → Value
  | .len => .builtin "len" | .abs => .builtin "abs" | .int => .type "int" | .max => .builtin "max" | .min => .builtin "min" | .sum => .builtin "sum" | .all => .builtin "all" | .any => .builtin "any"
  | .tuple => .type "tuple" | .list => .type "list" | .gcd => .builtin "math.gcd" | .sorted => .builtin "sorted" | .lenset => .none | .str => .type "str"
section
variable {X : Cx}
theorem bind_some {α β : Type} {x : Option α} {f : α → Option β} {y : β} (h : x.bind f = some y) : ∃ a, x = some a ∧ f a = some y := by
  cases x with
  | none => cases h
  | some a => exact ⟨a, rfl, h⟩
theorem call_bi (hc : X.calm = true) (b : Blt) : CallR X (bltA b) (rBi X.K b) := by
  intro pins s σ H xs us Q I rv h
  obtain ⟨ι, M, rs, r, hr, S, e, q⟩ := h
  have q0 : ∀ {w : V} {d : D}, Rep X.K ι H w d → r = .d d → Q w H := fun {w d} hw er => q H w Ext.refl (by rw [er]; exact hw) S
  cases b with
  | len =>
    have sq : ∀ x, rs = [x] → ((asS M x).map fun ds => Rv.d (.int (ds.length : Nat))) = some r → wpAny (model X.prog X.w) X.A (call (bltA .len) us) (EP X pins σ Q) X.xe s := by
      rintro x rfl e
      obtain ⟨ds, e1, rfl⟩ := Option.map_eq_some_iff.mp e
      obtain ⟨v, H₁, rfl, hx⟩ := hr.one
      obtain ⟨a, vs, rfl, hs, rp⟩ := asS_of S hx e1
      exact call_len_seq pins s σ H _ us Q I rv ⟨a, vs, rfl, hs, by rw [rp.length]; exact q0 (.int _) rfl⟩
    match rs, e, hr, sq with
    | [], e, _, _ => cases e
    | x :: y :: zs, e, _, _ =>
      cases x with
      | l _ => cases e
      | m _ _ _ => cases e
      | d d => cases d <;> cases e
    | [.l a], e, _, sq => exact sq _ rfl e
    | [.d .non], e, _, sq => exact sq _ rfl e
    | [.d (.bl _)], e, _, sq => exact sq _ rfl e
    | [.d (.int _)], e, _, sq => exact sq _ rfl e
    | [.d (.tup _)], e, _, sq => exact sq _ rfl e
    | [.d (.rl _)], e, _, sq => exact sq _ rfl e
    | [.d (.vl _)], e, _, sq => exact sq _ rfl e
    | [.d (.vd _ _ _)], e, _, sq => exact sq _ rfl e
    | [.m _ _ _], e, _, sq => exact sq _ rfl e
    | [.d (.ref _)], e, _, sq => exact sq _ rfl e
    | [.d (.str cs)], e, hr, _ =>
      have e : (if cs.length ≤ line then some (Rv.d (.int (cs.length : Nat))) else none) = some r := e
      by_cases hl : cs.length ≤ line
      · rw [if_pos hl] at e; cases e
        obtain ⟨v, H₁, rfl, hx⟩ := hr.one
        have ex := Rep.str_of hx
        subst ex
        refine call_len_str pins s σ H _ us Q I rv ⟨_, rfl, by show (cs.toArray.size : Nat) ≤ sizeLine; rw [List.size_toArray]; exact Nat.le_trans hl line_le, ?_⟩
        show Q (.int ((cs.toArray.size : Nat) : Int)) H
        rw [List.size_toArray]; exact q0 (.int _) rfl
      · rw [if_neg hl] at e; cases e
  | abs =>
    match rs, e, hr with
    | [.d (.int i)], e, hr =>
      cases e
      obtain ⟨v, H₁, rfl, hx⟩ := hr.one
      have ex := Rep.int_of hx
      subst ex
      exact call_abs pins s σ H _ us Q I rv ⟨i, rfl, q0 (.int _) rfl⟩
  | int =>
    match rs, e, hr with
    | [.d (.int i)], e, hr =>
      cases e
      obtain ⟨v, H₁, rfl, hx⟩ := hr.one
      have ex := Rep.int_of hx
      subst ex
      exact call_int1 pins s σ H _ us Q I rv (.inl ⟨i, rfl, q0 (.int _) rfl⟩)
    | [.d (.bl i)], e, hr =>
      cases e
      obtain ⟨v, H₁, rfl, hx⟩ := hr.one
      have ex := Rep.bl_of hx
      subst ex
      exact call_int1 pins s σ H _ us Q I rv (.inr ⟨i, rfl, q0 (.int _) rfl⟩)
  | max =>
    match rs, e, hr with
    | [.d (.int i), .d (.int j)], e, hr =>
      cases e
      obtain ⟨v, w, H₁, H₂, rfl, hx, hy⟩ := hr.two
      have ex := Rep.int_of hx
      have ey := Rep.int_of hy
      subst ex ey
      exact call_max2 hc pins s σ H _ us Q I rv ⟨i, j, rfl, q0 (.int _) rfl⟩
  | min =>
    match rs, e, hr with
    | [.d (.int i), .d (.int j)], e, hr =>
      cases e
      obtain ⟨v, w, H₁, H₂, rfl, hx, hy⟩ := hr.two
      have ex := Rep.int_of hx
      have ey := Rep.int_of hy
      subst ex ey
      exact call_min2 hc pins s σ H _ us Q I rv ⟨i, j, rfl, q0 (.int _) rfl⟩
  | gcd =>
    match rs, e, hr with
    | [.d (.int i), .d (.int j)], e, hr =>
      cases e
      obtain ⟨v, w, H₁, H₂, rfl, hx, hy⟩ := hr.two
      have ex := Rep.int_of hx
      have ey := Rep.int_of hy
      subst ex ey
      exact cr_gcd pins s σ H _ us Q I rv ⟨i, j, rfl, q0 (.int _) rfl⟩
  | sum =>
    match rs, e, hr with
    | [x], e, hr =>
      obtain ⟨is, e1, rfl⟩ := Option.map_eq_some_iff.mp e
      obtain ⟨ds, e2, e3⟩ := bind_some e1
      obtain ⟨v, H₁, rfl, hx⟩ := hr.one
      obtain ⟨a, vs, rfl, hs, rp⟩ := asL_of S hx e2
      have ev := rp.ints_ e3
      subst ev
      exact cr_sum hc pins s σ H _ us Q I rv ⟨a, is, rfl, SqL.of hs, q0 (.int _) rfl⟩
  | all =>
    match rs, e, hr with
    | [x], e, hr =>
      obtain ⟨is, e1, rfl⟩ := Option.map_eq_some_iff.mp e
      obtain ⟨ds, e2, e3⟩ := bind_some e1
      obtain ⟨v, H₁, rfl, hx⟩ := hr.one
      obtain ⟨a, vs, rfl, hs, rp⟩ := asL_of S hx e2
      have ev := rp.bools_ e3
      subst ev
      exact cr_all hc pins s σ H _ us Q I rv ⟨a, is, rfl, SqL.of hs, q0 (.bl _) rfl⟩
  | any =>
    match rs, e, hr with
    | [x], e, hr =>
      obtain ⟨is, e1, rfl⟩ := Option.map_eq_some_iff.mp e
      obtain ⟨ds, e2, e3⟩ := bind_some e1
      obtain ⟨v, H₁, rfl, hx⟩ := hr.one
      obtain ⟨a, vs, rfl, hs, rp⟩ := asL_of S hx e2
      have ev := rp.bools_ e3
      subst ev
      exact cr_any hc pins s σ H _ us Q I rv ⟨a, is, rfl, SqL.of hs, q0 (.bl _) rfl⟩
  | tuple =>
    match rs, e, hr with
    | [x], e, hr =>
      obtain ⟨ds, e1, rfl⟩ := Option.map_eq_some_iff.mp e
      obtain ⟨v, H₁, rfl, hx⟩ := hr.one
      obtain ⟨a, vs, rfl, hs, rp⟩ := asS_of S hx e1
      rcases hs with hs | hs
      · exact call_tuple_of pins s σ H _ us Q I rv ⟨a, vs, rfl, .inl ⟨hs, new_tup S rp q⟩⟩
      · exact call_tuple_of pins s σ H _ us Q I rv ⟨a, vs, rfl, .inr ⟨hs, q0 (.tup hs rp) rfl⟩⟩
  | list =>
    match rs, e, hr with
    | [x], e, hr =>
      obtain ⟨ds, e1, rfl⟩ := Option.map_eq_some_iff.mp e
      obtain ⟨v, H₁, rfl, hx⟩ := hr.one
      obtain ⟨a, vs, rfl, hs, rp⟩ := asS_of S hx e1
      exact call_list_of pins s σ H _ us Q I rv ⟨a, vs, rfl, hs, new_list S rp q⟩
  | sorted => cases e
  | lenset => cases e
  | str => cases e

/-! ### isinstance -/
def tyA : Ty → String
  | .int => "int" | .bool => "bool" | .str => "str" | .tuple => "tuple" | .list => "list" | .dict => "dict"
/-- the type's name of a value -/
def nameR (M : Ar) : Rv → Option String
  | .l _ => some "list"
  | .d .non => some "NoneType"
  | .d (.bl _) => some "bool"
  | .d (.int _) => some "int"
  | .d (.str _) => some "str"
  | .d (.tup _) => some "tuple"
  | .d (.rl _) => some "list"
  | .d (.vl _) => some "list"
  | .d (.vd _ _ _) => some "dict"
  | .m _ _ _ => some "dict"
  | .d (.ref n) => match M[n]? with
    | some (.lst _) => some "list"
    | some (.dct _ _ _) => some "dict"
    | _ => none
theorem isTy_kit {M : Ar} {x : Rv} {t : Ty} {b : Bool} {n : String} (hn : nameR M x = some n) (h : isTyM M x t = some b) : kitB n (tyA t) = some b := by
  let L : List (String × Ty × Bool) := [("list", Ty.int, false), ("list", .bool, false), ("list", .str, false), ("list", .tuple, false), ("list", .list, true), ("list", .dict, false),
    ("NoneType", .int, false), ("NoneType", .bool, false), ("NoneType", .str, false), ("NoneType", .tuple, false), ("NoneType", .list, false), ("NoneType", .dict, false),
    ("bool", .int, true), ("bool", .bool, true), ("bool", .str, false), ("bool", .tuple, false), ("bool", .list, false), ("bool", .dict, false),
    ("int", .int, true), ("int", .bool, false), ("int", .str, false), ("int", .tuple, false), ("int", .list, false), ("int", .dict, false),
    ("str", .int, false), ("str", .bool, false), ("str", .str, true), ("str", .tuple, false), ("str", .list, false), ("str", .dict, false),
    ("tuple", .int, false), ("tuple", .bool, false), ("tuple", .str, false), ("tuple", .tuple, true), ("tuple", .list, false), ("tuple", .dict, false),
    ("dict", .int, false), ("dict", .bool, false), ("dict", .str, false), ("dict", .tuple, false), ("dict", .list, false), ("dict", .dict, true)]
  have all : (L.all fun p => decide (kitB p.1 (tyA p.2.1) = some p.2.2)) = true := by decide +kernel
  have key : ∀ n t b, (n, t, b) ∈ L → kitB n (tyA t) = some b := fun n t b h => of_decide_eq_true (List.all_eq_true.mp all (n, t, b) h)
  apply key
  cases x with
  | l _ => cases hn; cases t <;> cases h <;> decide
  | m _ _ _ => cases hn; cases t <;> cases h <;> decide
  | d d =>
    cases d with
    | ref k =>
      have hn : (match M[k]? with | some (.lst _) => some "list" | some (.dct _ _ _) => some "dict" | _ => none) = some n := hn
      have h : (match M[k]? with | some (.lst _) => some (decide (t = Ty.list)) | some (.dct _ _ _) => some (decide (t = Ty.dict)) | _ => none) = some b := h
      cases e : M[k]? with
      | none => rw [e] at hn; cases hn
      | some o =>
        cases o <;> first | (rw [e] at hn; cases hn; done) | (
          rw [e] at hn h
          cases hn
          cases h
          cases t <;> decide)
    | _ => cases hn; cases t <;> cases h <;> decide
theorem tyX_of {K : PySem.W.Frag} {ι : Pl} {H H₁ : Hp} {M : Ar} (S : Sim K ι H M) {v : V} {x : Rv} {n : String} (hx : RepR K H₁ ι H v x) (hn : nameR M x = some n) : TyX K H v (.type n) := by
  have tl : ∀ {a vs}, SqL K H a vs → TyX K H (.ref a) (.type "list") := fun {a vs} h => by
    rcases h with (h | ⟨o, h⟩) | ⟨o, its, k, h, hc, _⟩
    · exact .base (.lst h)
    · exact .base (.frz h)
    · exact .kList h hc
  have tt : ∀ {a vs}, SqT K H a vs → TyX K H (.ref a) (.type "tuple") := fun {a vs} h => by
    rcases h with (h | ⟨o, h⟩) | ⟨o, its, k, h, hc, _⟩
    · exact .base (.tup h)
    · exact .fTuple h
    · exact .kTuple h hc
  cases x with
  | l _ => cases hn; obtain ⟨a, vs, rfl, h, _⟩ := hx; exact tl (SqL.of h)
  | m t ks vs =>
    cases hn
    obtain ⟨a, rfl, _, _, ro⟩ := hx
    cases t with
    | false => obtain ⟨kv, h, _⟩ := ro; exact .base (.dK h)
    | true => obtain ⟨kv, h, _⟩ := ro; exact .base (.dT h)
  | d d =>
    cases d with
    | ref k =>
      have hn : (match M[k]? with | some (.lst _) => some "list" | some (.dct _ _ _) => some "dict" | _ => none) = some n := hn
      cases e : M[k]? with
      | none => rw [e] at hn; cases hn
      | some o =>
        cases o with
        | lst ds =>
          rw [e] at hn; cases hn
          obtain ⟨a, ha, vs, h, _⟩ := S.look e
          cases (show Rep K ι H v (.ref k) from hx) with
          | ref hr => rw [ha] at hr; cases hr; exact tl (SqL.of h)
        | spn => rw [e] at hn; cases hn
        | dct t dks dvs =>
          rw [e] at hn; cases hn
          obtain ⟨a, ha, ro⟩ := S.look e
          cases (show Rep K ι H v (.ref k) from hx) with
          | ref hr =>
            rw [ha] at hr; cases hr
            cases t with
            | false => obtain ⟨kv, h, _⟩ := ro; exact .base (.dK h)
            | true => obtain ⟨kv, h, _⟩ := ro; exact .base (.dT h)
    | non => cases hn; cases (show Rep K ι H v .non from hx); exact .base .non
    | bl b => cases hn; cases (show Rep K ι H v (.bl b) from hx); exact .base (.bl _)
    | int b => cases hn; cases (show Rep K ι H v (.int b) from hx); exact .base (.int _)
    | str b => cases hn; cases (show Rep K ι H v (.str b) from hx); exact .base (.str _)
    | tup b =>
      cases hn
      cases (show Rep K ι H v (.tup b) from hx) with
      | tup h _ => exact tt h
    | rl b =>
      cases hn
      cases (show Rep K ι H v (.rl b) from hx) with
      | rl h _ => exact tl h.sq
    | vl b =>
      cases hn
      cases (show Rep K ι H v (.vl b) from hx) with
      | vl f h _ => exact tl (SqL.of h)
    | vd t ks vs =>
      cases hn
      cases (show Rep K ι H v (.vd t ks vs) from hx) with
      | vdK f h _ _ => exact .base (.dK h)
      | vdT f h _ _ => exact .base (.dT h)
end
end Q
end

section
set_option Elab.async false
set_option linter.all false
set_option maxRecDepth 100000
set_option maxHeartbeats 4000000
namespace Q
open PySem PySem.Spec PyProof.Rows L2
section
variable {X : Cx}
/-- o.m(..), the arena changed -/
def mthA : Mth → String
  | .append => "list.append" | .pop => "list.pop" | .extend => "list.extend"
def rMt (K : PySem.W.Frag) (m : Mth) : V → List V → Hp → VK → Prop := fun x vs H Q => ∃ ι M d ds r M', Rep K ι H x d ∧ Reps K ι H vs ds ∧ Sim K ι H M ∧ method m d ds M = .ok r M' ∧
  ∀ H' v, Ext K ι H ι H' → RepR K H ι H' v r → Sim K ι H' M' → Q v H'
theorem mt_ok (m : Mth) : MtR X (mthA m) (rMt X.K m) := by
  intro pins s σ H x xs v us Q I rx rxs h
  obtain ⟨ι, M, d, ds, r, M', hx, hr, S, e, q⟩ := h
  unfold method at e
  cases d with
  | ref n =>
    simp only at e
    cases em : M[n]? with
    | none => rw [em] at e; cases e
    | some o =>
      cases o with
      | dct t dks dvs => rw [em] at e; cases e
      | spn => rw [em] at e; cases e
      | lst es =>
        rw [em] at e
        obtain ⟨a, ha, vs, h1, h2⟩ := S.look em
        cases hx with
        | ref hn =>
          rw [ha] at hn; cases hn
          cases m with
          | append =>
            match ds, e, hr with
            | [y], e, hr =>
              simp only at e
              by_cases hl : es.length < line
              · rw [if_pos hl] at e; cases e
                cases hr with
                | @cons hv hvs hd hds hy t =>
                  cases t
                  refine mt_append pins s σ H _ _ v us Q I rx rxs ⟨a, vs, _, rfl, rfl, h1, by rw [h2.length]; exact Nat.lt_trans hl line_lt, ?_⟩
                  have ex : Ext X.K ι H ι (upd H a (.lst (vs ++ [hv]))) := Ext.write S ha h1
                  exact q _ _ ex .non (S.write ha h1 ((h2.append (.cons hy .nil)).ext ex))
              · rw [if_neg hl] at e; cases e
            | [], e, _ => cases e
            | _ :: _ :: _, e, _ => cases e
          | pop =>
            match ds, e, hr with
            | [], e, hr =>
              simp only at e
              cases hr
              cases eg : es.getLast? with
              | none => rw [eg] at e; cases e
              | some y =>
                rw [eg] at e; cases e
                have hg : es[es.length - 1]? = some y := by rw [← List.getLast?_eq_getElem?]; exact eg
                obtain ⟨w, g1, g2⟩ := h2.get hg
                refine mt_pop pins s σ H _ _ v us Q I rx rxs ⟨a, vs, w, rfl, rfl, h1, by rw [h2.length]; exact g1, ?_⟩
                have ex : Ext X.K ι H ι (upd H a (.lst vs.dropLast)) := Ext.write S ha h1
                refine q _ _ ex (Rep.ext ex g2) (S.write ha h1 ?_)
                have : Reps X.K ι H vs.dropLast es.dropLast := by
                  rw [List.dropLast_eq_take, List.dropLast_eq_take, h2.length]
                  exact h2.take _
                exact this.ext ex
            | _ :: _, e, _ => cases e
          | extend => cases e
  | _ => cases e
/-- o[i] = v -/
def rPut (K : PySem.W.Frag) : TSet := fun x y z H Q => ∃ ι H₁ H₂ M rx ry d M', RepR K H₁ ι H x rx ∧ RepR K H₂ ι H y ry ∧ Rep K ι H z d ∧ Sim K ι H M ∧ putAt rx ry d M = .ok () M' ∧
  ∀ H', Ext K ι H ι H' → Sim K ι H' M' → Q H'
theorem put_ok : PSet X (rPut X.K) := by
  intro pins s σ H o i v ov iv u Q I r1 r2 r3 h
  obtain ⟨ι, H₁, H₂, M, rx, ry, d, M', hx, hy, hz, S, e, q⟩ := h
  unfold putAt at e
  cases rx with
  | l _ => cases e
  | m _ _ _ => cases e
  | d dx =>
    cases dx with
    | ref n =>
      cases ry with
      | l _ => cases e
      | m _ _ _ => cases e
      | d dy =>
        cases dy with
        | int k =>
          simp only at e
          cases em : M[n]? with
          | none => rw [em] at e; cases e
          | some ob =>
            cases ob with
            | dct t dks dvs => rw [em] at e; cases e
            | spn => rw [em] at e; cases e
            | lst es =>
              rw [em] at e
              simp only at e
              cases ek : ixD es.length k with
              | none => rw [ek] at e; cases e
              | some j =>
                rw [ek] at e; cases e
                obtain ⟨a, ha, vs, h1, h2⟩ := S.look em
                cases (show Rep X.K ι H o (.ref n) from hx) with
                | ref hn =>
                  rw [ha] at hn; cases hn
                  have ey := Rep.int_of hy
                  subst ey
                  refine set_list pins s σ H _ _ v ov iv u Q I r1 r2 r3 ⟨a, vs, k, j, rfl, rfl, h1, by rw [h2.length]; exact ek, ?_⟩
                  have ex : Ext X.K ι H ι (upd H a (.lst (vs.set j v))) := Ext.write S ha h1
                  exact q _ ex (S.write ha h1 ((h2.set hz j).ext ex))
        | _ => cases e
    | _ => cases e
end
end Q
end

section
set_option Elab.async false
set_option linter.all false
set_option maxRecDepth 100000
set_option maxHeartbeats 4000000
/-! len(set(xs)), xs a list or a tuple of whole numbers and texts. -/
namespace Q
open PySem PySem.Spec PyProof.Rows L2
/-- each key once, as met -/
def inn (acc : List Key) (k : Key) : Bool := acc.any fun x => decide (x = k)
def met (ks : List Key) : List Key := ks.foldl (fun acc k => if inn acc k = true then acc else acc ++ [k]) []
theorem inn_snoc (acc : List Key) (j k : Key) : inn (acc ++ [j]) k = (inn acc k || decide (k = j)) := by
  unfold inn; rw [List.any_append]; simp only [List.any_cons, List.any_nil, Bool.or_false]; congr 1; exact decide_eq_decide.mpr ⟨Eq.symm, Eq.symm⟩
theorem met_snoc (ks : List Key) (k : Key) : met (ks ++ [k]) = if inn (met ks) k = true then met ks else met ks ++ [k] := by
  unfold met; rw [List.foldl_append]; rfl
theorem met_len : ∀ n : Nat, ∀ ks : List Key, ks.length = n → (met ks).length ≤ n
  | 0, ks, h => by rw [List.eq_nil_of_length_eq_zero h]; exact Nat.le_refl _
  | n + 1, ks, h => by
    obtain ⟨l, k, rfl⟩ : ∃ l k, ks = l ++ [k] := ⟨ks.dropLast, ks.getLast (by intro z; rw [z] at h; cases h), (List.dropLast_concat_getLast _).symm⟩
    have hl : l.length = n := by rw [List.length_append] at h; simpa using h
    have ih := met_len n l hl
    rw [met_snoc]
    split
    · omega
    · rw [List.length_append]; show _ + 1 ≤ _; omega
abbrev SetAt (P : Program) (w : World) (h : Heap) (at_ : Addr) (ks : List Key) : Prop := h.SetOf (mixKind P w) at_ (inn (met ks)) (met ks).length
theorem SetAt.as {P : Program} {w : World} {h : Heap} {a : Addr} {ks : List Key} {S : Key → Bool} {n : Nat} (q : h.SetOf (mixKind P w) a S n) (e : ∀ k, S k = inn (met ks) k) (en : n = (met ks).length) : SetAt P w h a ks := by
  cases en
  cases (funext e : S = inn (met ks))
  exact q
section
variable {P : Program} {w : World} {B : Around} {Z : Result → Shared → Prop} {it : Addr} {f1 f2 : List Addr} {G : Array GenState → Array GenState → Prop} {m : Nat} {Y : Nat → Value → Prop} {St : Nat → Shared → Prop}
theorem SetAt.moved {h g : Heap} {a : Addr} {ks : List Key} (q : SetAt P w h a ks) (k : ∀ o, h.get? a = some o → g.get? a = some o) : SetAt P w g a ks := by
  obtain ⟨o, u1, u2, u3, u4, u5⟩ := q
  exact ⟨o, u1, u2, u3, k o u4, u5⟩
theorem SetAt.more {h : Heap} {a : Addr} {ks : List Key} {k : Key} (q : h.SetOf (mixKind P w) a (fun k' => inn (met ks) k' || decide (k' = k)) (if inn (met ks) k = true then (met ks).length else (met ks).length + 1)) : SetAt P w h a (ks ++ [k]) := by
  refine SetAt.as q (fun k' => ?_) ?_
  · rw [met_snoc]
    split
    case isTrue hk =>
      by_cases e : k' = k
      · subst e; rw [hk]; rfl
      · rw [decide_eq_false e, Bool.or_false]
    case isFalse hk => rw [inn_snoc]
  · rw [met_snoc]
    split
    · rfl
    · rw [List.length_append]; rfl
/-- the loop that puts in what is handed out -/
theorem put_all (U : WalksS P w B.in1 it f1 f2 G m Y St) (d : Addr) (nd : d ∉ f1) (ks : List Key) (hm : ks.length = m) (hY : ∀ i v, Y i v → ∃ k, ks[i]? = some k ∧ keyIs k v = true) (small : m + 1 < scanBound) :
    ∀ (j i : Nat) (s : Shared), m - i = j → i ≤ m → St i s → SetAt P w s.heap d (ks.take i) → (∀ s', Moved (d :: f2) G s s' → SetAt P w s'.heap d ks → Z (.ok (.ret .none)) s') →
      codeAny (model P w) B (.builtin "set.update.loop" ⟨[.ref d, .ref it], []⟩) Z s := by
  have nd2 : d ∉ f2 := fun z => nd (U.sub _ z)
  have up : ∀ b ∈ f2, b ∈ d :: f2 := fun b z => List.mem_cons_of_mem _ z
  intro j
  induction j with
  | zero =>
    intro i s hj hi st q fin
    obtain rfl : i = m := by omega
    apply codeAny_builtin (PyProof.Rows.F.entry_set_update_loop)
    rw [Around.under_plainId (PyProof.Rows.F.plain_set_update_loop) _]
    show wpAny _ B.in1 (pyNext (.ref it) >>= _) _ _ s
    apply wpAny_bind (U.done s _ _ st fun s' mv => ?_)
    show wpAny _ B.in1 (PySem.ret Value.none) _ _ s'
    refine wpAny_pure (fin s' (mv.mono up) (SetAt.moved ?_ fun o e => mv.heap d o nd2 e))
    rw [← hm, List.take_length] at q
    exact q
  | succ j ih =>
    intro i s hj hi st q fin
    have lt : i < m := by omega
    apply codeAny_builtin (PyProof.Rows.F.entry_set_update_loop)
    rw [Around.under_plainId (PyProof.Rows.F.plain_set_update_loop) _]
    show wpAny _ B.in1 (pyNext (.ref it) >>= _) _ _ s
    apply wpAny_bind (U.item i s _ _ lt st fun v s' y st' mv => ?_)
    obtain ⟨k, hk, kv⟩ := hY i v y
    have q' : SetAt P w s'.heap d (ks.take i) := q.moved fun o e => mv.heap d o nd2 e
    show wpAny _ B.in1 (holding [v] (setAdd d v) >>= _) _ _ s'
    apply wpAny_bind (wpAny_holding ?_)
    unfold setAdd
    apply wpAny_holding
    apply wpAny_bind ((mixKind P w).pyHash (k := k) kv ?_)
    have few : (met (ks.take i)).length + 1 < scanBound := by
      have := met_len _ (ks.take i) rfl
      rw [List.length_take] at this; omega
    have sc : v.scannable = true := by
      rcases keyIs_shape kv with ⟨_, _, _, rfl⟩ | ⟨_, _, _, rfl⟩ <;> rfl
    refine wpAny_setAddHashed_of (knd := mixKind P w) (k := k) (s := { s' with toks := s'.toks + 1 }) kv sc q' few fun h' sb q2 => ?_
    have nx : ks.take (i + 1) = ks.take i ++ [k] := by
      obtain ⟨l, e⟩ := List.getElem?_eq_some_iff.mp hk
      rw [List.take_succ_eq_append_getElem l, e]
    refine wpAny_pure ⟨plainId_quiet (PyProof.Rows.F.plain_set_update_loop) _, ih (i + 1) _ (by omega) lt (U.frame _ s' _ _ st' (Nat.le_succ _) fun b hb o e => ?_) (by rw [nx]; exact SetAt.more q2) fun s2 mv2 z => ?_⟩
    · rw [sb.2 b fun z => nd (z ▸ hb)]; exact e
    · refine fin s2 (Moved.trans U.gtrans ((mv.mono up).then_heap (Nat.le_succ _) fun b o hb e => ?_) mv2) z
      rw [sb.2 b fun z => hb (by rw [z]; exact List.mem_cons_self)]; exact e
end
def keyV : Key → V
  | .inl i => .int i
  | .inr s => .str s
theorem keys_vals : ∀ {ks : List Key} {us : List Value}, Vals (ks.map keyV) us → ∀ (i : Nat) (v : Value), us[i]? = some v → ∃ k, ks[i]? = some k ∧ keyIs k v = true
  | [], _, .nil, i, v, h => by simp at h
  | k :: ks, _, .cons (b := u) r t, 0, v, h => by
    have h : u = v := by simpa using h
    subst h
    refine ⟨k, rfl, ?_⟩
    cases k with
    | inl i => obtain ⟨t, rfl⟩ := (show ∃ t, u = Value.int i t from r); exact keyIs_int i t
    | inr s => obtain ⟨t, rfl⟩ := (show ∃ t, u = Value.str s t from r); exact keyIs_str s t
  | k :: ks, _, .cons (b := u) r t, i + 1, v, h => by
    obtain ⟨k', h1, h2⟩ := keys_vals t i v (by simpa only [List.getElem?_cons_succ] using h)
    exact ⟨k', by simpa using h1, h2⟩
section
variable {P : Program} {w : World} {B : Around} {Er : Value → Shared → Prop} {s : Shared}

theorem setK_list {l : Addr} {us : Array Value} {ks : List Key} {Z : Value → Shared → Prop} (calm : B.handled = none) (hl : s.heap.IsList l us) (hk : ∀ (i : Nat) (v : Value), us[i]? = some v → ∃ k, ks[i]? = some k ∧ keyIs k v = true) (hz : ks.length = us.size) (small : us.size + 1 < scanBound)
    (z : ∀ (h' : Heap) (tk : Nat), SetAt P w h' s.heap.objs.size ks → (∀ b o, b < s.heap.objs.size → s.heap.get? b = some o → h'.get? b = some o) → Z (.ref s.heap.objs.size) { s with heap := h', toks := tk }) :
    wpAny (model P w) B (call (.type "set") [.ref l]) Z Er s := by
  obtain ⟨c0, tl0, mro0⟩ := PySem.F.called_set.mro
  have made0 := PySem.F.called_set.made
  have sub0 := PySem.F.called_set.sub
  apply wpAny_call (codeAny_of_tree ?_)
  show wpAny _ _ (callAny (.type "set") _) _ _ _
  refine wpAny_pure ⟨Code.quiet_builtin _ (by decide +kernel), codeAny_builtin (PySem.F.entry_type_call) ?_⟩
  rw [Around.under_plain ((weight_type_call_type "set" [.ref l] [])) (rfl)]
  have q1 := PySem.F.called_set.notType
  have q2 := PySem.F.called_set.canCreate
  have q3 := PySem.F.typeCall_set_1 (.ref l)
  repeat (any_goals (first | wp_step | assumption))
  let ob (led : Bool) : Obj := { cls := .type "set", dict := none, data := .set #[] 0 (.fresh 0 0 led) }
  apply codeAny_mono (code_set_new_1 (.ref l) (E := Er) (Q₁ := fun x s₁ => ∃ led : Bool, x = .ref s.heap.objs.size ∧ s₁ = { s with heap := s.heap.push (ob led) }) fun led => ⟨led, rfl, rfl⟩)
  intro r s₁ hr
  cases r with
  | error e => exact hr
  | ok fl =>
    cases fl with
    | ret x =>
      obtain ⟨led, rfl, rfl⟩ := hr
      have here : (s.heap.push (ob led)).get? s.heap.objs.size = some (ob led) := Heap.get?_push_size _ rfl
      have ty : Shared.TypeIs { s with heap := s.heap.push (ob led) } (.ref s.heap.objs.size) "set" := ⟨_, here, rfl⟩
      have li := PySem.F.called_set.init.lookup
      have bi := PySem.F.called_set.init.bind (.ref s.heap.objs.size)
      repeat (any_goals (first | wp_step | assumption))
      apply codeAny_mono (codeAny_call_builtin (R := wants (fun r s₂ => r = .none ∧ ∃ h' tk, s₂ = { s with heap := h', toks := tk } ∧ SetAt P w h' s.heap.objs.size ks ∧ (∀ b o, b < s.heap.objs.size → s.heap.get? b = some o → h'.get? b = some o)) Er) (PySem.F.called_set.init.plain) (PySem.F.entry_set_init) (check_set_init_1 ty ?_))
      · intro r₂ s₂ hr₂
        cases r₂ with
        | error e => exact hr₂
        | ok fl₂ =>
          cases fl₂ with
          | ret r =>
            obtain ⟨rfl, h', tk, rfl, g1, g2⟩ := hr₂
            repeat (any_goals (first | wp_step | assumption))
            exact z _ _ g1 g2
          | _ => exact hr₂.elim
      · obtain ⟨⟨oc, od, dt, sl⟩, ho, cl, nl, dl⟩ := hl
        simp only at cl dl
        subst cl; subst dl
        have ho' : (s.heap.push (ob led)).get? l = some { cls := .type "list", dict := od, data := .seq us nl, slots := sl } := Heap.get?_push_of_some _ ho
        have t1 := PySem.F.sub_list_set
        have t2 := PySem.F.sub_list_frozenset
        have t3 : (Value.type "list" == Value.type "dict") = false := by decide
        have hl1 : (s.heap.push (ob led)).IsList l us := ⟨_, ho', rfl, nl, rfl⟩
        unfold Builtin.«set.__init__» noKeywords Builtin.Frozenset.updateFrom
        generalize keep : pyIter = pit
        wp_walk
        subst keep
        apply wpAny_pyIter_list hl1
        apply wpAny_bind (wpAny_runValue ?_)
        have lt : l < s.heap.objs.size := Heap.lt_size ho
        have cm : B.in1.in1.in1.handled = none := by simp [calm]
        have ne : l ≠ (s.heap.push (ob led)).objs.size := by rw [Heap.size_push]; exact Nat.ne_of_lt (Nat.lt_succ_of_lt lt)
        have nin : s.heap.objs.size ∉ [(s.heap.push (ob led)).objs.size, l] := by
          rw [Heap.size_push]; simp only [List.mem_cons, List.not_mem_nil, or_false, not_or]
          exact ⟨Nat.ne_of_lt (Nat.lt_succ_self _), Nat.ne_of_gt lt⟩
        refine put_all ((Walks.list cm _ l ne us).toS) s.heap.objs.size nin ks hz hk small (us.size - 0) 0 _ (by omega) (Nat.zero_le _) ⟨⟨_, Heap.get?_push_size _ rfl, rfl, rfl⟩, (hl1.push _)⟩ ?first ?last
        case first =>
          have got : ((s.heap.push (ob led)).push { cls := .type "list_iterator", data := .fields #[.ref l, .int 0 0] }).get? s.heap.objs.size = some (ob led) := Heap.get?_push_of_some _ here
          letI : BEq Key := instBEqOfDecidableEq
          exact SetAt.as ((setObjOf_fresh (knd := mixKind P w) led).setOf got (by unfold scanBound; omega)) (fun _ => rfl) rfl
        case last =>
          intro s' mv q'
          obtain ⟨h', g', d', tk', os'⟩ := s'
          obtain rfl : g' = s.gens := mv.gens
          obtain rfl : d' = s.drawn := mv.drawn
          obtain rfl : os' = s.os := mv.os
          show wpAny _ _ _ _ _ _
          apply wpAny_pure
          show wpAny _ _ (PySem.ret Value.none) _ _ _
          refine wpAny_pure ⟨rfl, h', tk', rfl, q', fun b o hb e => ?_⟩
          have n1 : b ≠ s.heap.objs.size := Nat.ne_of_lt hb
          have n2 : b ≠ (s.heap.push (ob led)).objs.size := by rw [Heap.size_push]; exact Nat.ne_of_lt (Nat.lt_succ_of_lt hb)
          exact mv.heap b o (by simp only [List.mem_cons, List.not_mem_nil, or_false, not_or]; exact ⟨n1, n2⟩) (Heap.get?_push_of_some _ (Heap.get?_push_of_some _ e))
    | _ => exact hr.elim

theorem setK_tuple {l : Addr} {us : Array Value} {ks : List Key} {Z : Value → Shared → Prop} (calm : B.handled = none) (hl : s.heap.IsTuple l us) (hk : ∀ (i : Nat) (v : Value), us[i]? = some v → ∃ k, ks[i]? = some k ∧ keyIs k v = true) (hz : ks.length = us.size) (small : us.size + 1 < scanBound)
    (z : ∀ (h' : Heap) (tk : Nat), SetAt P w h' s.heap.objs.size ks → (∀ b o, b < s.heap.objs.size → s.heap.get? b = some o → h'.get? b = some o) → Z (.ref s.heap.objs.size) { s with heap := h', toks := tk }) :
    wpAny (model P w) B (call (.type "set") [.ref l]) Z Er s := by
  obtain ⟨c0, tl0, mro0⟩ := PySem.F.called_set.mro
  have made0 := PySem.F.called_set.made
  have sub0 := PySem.F.called_set.sub
  apply wpAny_call (codeAny_of_tree ?_)
  show wpAny _ _ (callAny (.type "set") _) _ _ _
  refine wpAny_pure ⟨Code.quiet_builtin _ (by decide +kernel), codeAny_builtin (PySem.F.entry_type_call) ?_⟩
  rw [Around.under_plain ((weight_type_call_type "set" [.ref l] [])) (rfl)]
  have q1 := PySem.F.called_set.notType
  have q2 := PySem.F.called_set.canCreate
  have q3 := PySem.F.typeCall_set_1 (.ref l)
  repeat (any_goals (first | wp_step | assumption))
  let ob (led : Bool) : Obj := { cls := .type "set", dict := none, data := .set #[] 0 (.fresh 0 0 led) }
  apply codeAny_mono (code_set_new_1 (.ref l) (E := Er) (Q₁ := fun x s₁ => ∃ led : Bool, x = .ref s.heap.objs.size ∧ s₁ = { s with heap := s.heap.push (ob led) }) fun led => ⟨led, rfl, rfl⟩)
  intro r s₁ hr
  cases r with
  | error e => exact hr
  | ok fl =>
    cases fl with
    | ret x =>
      obtain ⟨led, rfl, rfl⟩ := hr
      have here : (s.heap.push (ob led)).get? s.heap.objs.size = some (ob led) := Heap.get?_push_size _ rfl
      have ty : Shared.TypeIs { s with heap := s.heap.push (ob led) } (.ref s.heap.objs.size) "set" := ⟨_, here, rfl⟩
      have li := PySem.F.called_set.init.lookup
      have bi := PySem.F.called_set.init.bind (.ref s.heap.objs.size)
      repeat (any_goals (first | wp_step | assumption))
      apply codeAny_mono (codeAny_call_builtin (R := wants (fun r s₂ => r = .none ∧ ∃ h' tk, s₂ = { s with heap := h', toks := tk } ∧ SetAt P w h' s.heap.objs.size ks ∧ (∀ b o, b < s.heap.objs.size → s.heap.get? b = some o → h'.get? b = some o)) Er) (PySem.F.called_set.init.plain) (PySem.F.entry_set_init) (check_set_init_1 ty ?_))
      · intro r₂ s₂ hr₂
        cases r₂ with
        | error e => exact hr₂
        | ok fl₂ =>
          cases fl₂ with
          | ret r =>
            obtain ⟨rfl, h', tk, rfl, g1, g2⟩ := hr₂
            repeat (any_goals (first | wp_step | assumption))
            exact z _ _ g1 g2
          | _ => exact hr₂.elim
      · obtain ⟨⟨oc, od, dt, sl⟩, ho, cl, nl, dl⟩ := hl
        simp only at cl dl
        subst cl; subst dl
        have ho' : (s.heap.push (ob led)).get? l = some { cls := .type "tuple", dict := od, data := .seq us nl, slots := sl } := Heap.get?_push_of_some _ ho
        have t1 := PySem.F.sub_tuple_set
        have t2 := PySem.F.sub_tuple_frozenset
        have t3 : (Value.type "tuple" == Value.type "dict") = false := by decide
        have hl1 : (s.heap.push (ob led)).IsTuple l us := ⟨_, ho', rfl, nl, rfl⟩
        unfold Builtin.«set.__init__» noKeywords Builtin.Frozenset.updateFrom
        generalize keep : pyIter = pit
        wp_walk
        subst keep
        apply wpAny_pyIter_tuple hl1
        apply wpAny_bind (wpAny_runValue ?_)
        have lt : l < s.heap.objs.size := Heap.lt_size ho
        have cm : B.in1.in1.in1.handled = none := by simp [calm]
        have ne : l ≠ (s.heap.push (ob led)).objs.size := by rw [Heap.size_push]; exact Nat.ne_of_lt (Nat.lt_succ_of_lt lt)
        have nin : s.heap.objs.size ∉ [(s.heap.push (ob led)).objs.size, l] := by
          rw [Heap.size_push]; simp only [List.mem_cons, List.not_mem_nil, or_false, not_or]
          exact ⟨Nat.ne_of_lt (Nat.lt_succ_self _), Nat.ne_of_gt lt⟩
        refine put_all ((Walks.tuple cm _ l ne us).toS) s.heap.objs.size nin ks hz hk small (us.size - 0) 0 _ (by omega) (Nat.zero_le _) ⟨⟨_, Heap.get?_push_size _ rfl, rfl, rfl⟩, (hl1.push _)⟩ ?first ?last
        case first =>
          have got : ((s.heap.push (ob led)).push { cls := .type "tuple_iterator", data := .fields #[.ref l, .int 0 0] }).get? s.heap.objs.size = some (ob led) := Heap.get?_push_of_some _ here
          letI : BEq Key := instBEqOfDecidableEq
          exact SetAt.as ((setObjOf_fresh (knd := mixKind P w) led).setOf got (by unfold scanBound; omega)) (fun _ => rfl) rfl
        case last =>
          intro s' mv q'
          obtain ⟨h', g', d', tk', os'⟩ := s'
          obtain rfl : g' = s.gens := mv.gens
          obtain rfl : d' = s.drawn := mv.drawn
          obtain rfl : os' = s.os := mv.os
          show wpAny _ _ _ _ _ _
          apply wpAny_pure
          show wpAny _ _ (PySem.ret Value.none) _ _ _
          refine wpAny_pure ⟨rfl, h', tk', rfl, q', fun b o hb e => ?_⟩
          have n1 : b ≠ s.heap.objs.size := Nat.ne_of_lt hb
          have n2 : b ≠ (s.heap.push (ob led)).objs.size := by rw [Heap.size_push]; exact Nat.ne_of_lt (Nat.lt_succ_of_lt hb)
          exact mv.heap b o (by simp only [List.mem_cons, List.not_mem_nil, or_false, not_or]; exact ⟨n1, n2⟩) (Heap.get?_push_of_some _ (Heap.get?_push_of_some _ e))
    | _ => exact hr.elim
end
/-- len(set(xs)) -/
def tLenKeys (K : PySem.W.Frag) (ta : TE) : TE := fun σ H Z => ta σ H fun x H1 => ∃ (l : Addr) (ks : List Key), x = .ref l ∧ (SqL K H1 l (ks.map keyV) ∨ SqT K H1 l (ks.map keyV)) ∧ ks.length ≤ 4000 ∧ Z (.int ((met ks).length : Nat)) H1
theorem pe_lenKeys {X : Cx} {a : Expr} {ta : TE} {p p2 q pos : Pos} (hg : Gl X "len") (hm : X.mg "len" = none) (hg2 : Gl X "set") (hm2 : X.mg "set" = none) (ha : PE X a ta) (hc : X.calm = true) (na : starEach [a] X.env = (false, eval a X.env) :: starEach [] X.env) :
    PE X (.Call (.Name "len" p) [.Call (.Name "set" p2) [a] [] q] [] pos) (tLenKeys X.K ta) := by
  constructor
  intro pins s σ H Z I h
  apply Call_ (ld_blt I hg hm boot_len ?_)
  apply callWith_builtin1 (args_cons ?_ rfl) rfl rfl
  apply Call_ (ld_blt I hg2 hm2 boot_set ?_)
  apply callWith_type1 (args_cons (thn (ha.run pins s σ H _ I h) fun v s1 ⟨x, H1, I1, r1, q1⟩ => args_nil ?_) na) na rfl
  obtain ⟨l, ks, rfl, hq, hl, q1⟩ := q1
  cases r1
  have fin : ∀ (h' : Heap) (tk : Nat), SetAt X.prog X.w h' s1.heap.objs.size ks → (∀ b o, b < s1.heap.objs.size → s1.heap.get? b = some o → h'.get? b = some o) →
      wpAny (model X.prog X.w) X.A (spliced (backTo pos (starEach [] X.env))) (fun vs s₂ => wpAny (model X.prog X.w) X.A (call (.builtin "len") (Value.ref s1.heap.objs.size :: vs)) (EP X pins σ Z) X.xe s₂) X.xe { s1 with heap := h', toks := tk } := fun h' tk q k => by
    apply args_nil
    obtain ⟨o, es, ep, t, ho, hex, hd, _, _, _, hf, hn⟩ := q
    have I2 : Inv X pins σ H1 { s1 with heap := h', toks := tk } := I1.kept fun b o e => k b o (Heap.lt_size e) e
    have := met_len _ ks rfl
    refine call_len_set ho hex hd hf (by rw [hn]; omega) ⟨.int (met ks).length, H1, I2.tok _, ⟨_, by rw [hn]⟩, q1⟩
  rcases hq with hq | hq
  · obtain ⟨its, r, pl, _⟩ := I1.list hq
    have e : its.length = ks.length := by rw [← r.length, List.length_map]
    exact setK_list (I1.ok.hd hc) pl.isList (fun i v hv => keys_vals r i v (by simpa using hv)) (by rw [List.size_toArray]; omega) (by rw [List.size_toArray]; unfold scanBound; omega) fin
  · obtain ⟨its, r, pl, _⟩ := I1.tuple hq
    have e : its.length = ks.length := by rw [← r.length, List.length_map]
    exact setK_tuple (I1.ok.hd hc) pl (fun i v hv => keys_vals r i v (by simpa using hv)) (by rw [List.size_toArray]; omega) (by rw [List.size_toArray]; unfold scanBound; omega) fin
end Q
end

section
set_option Elab.async false
set_option linter.all false
set_option maxRecDepth 100000
set_option maxHeartbeats 4000000
/-! Readings of terms. -/
namespace Q
open PySem PySem.Spec PyProof.Rows L2

/-- what is told of the text: names of constants with their values, defs by their numbers, free names, how errors lie -/
structure GX where
  consts : List (Str × D)
  fns : List (Str × Nat × Nat)
  free : List Str
  ea : PySem.W.Frag → Pl → Hp → Nat → D → Value → Option Addr → Prop

def XW (G : GX) (K : PySem.W.Frag) (W : WX) (σ : L2.St) (ι : Pl) (H : Hp) (c : Nat) (p : D) (M' : Ar) : Prop := ∀ ι' cls oe H', Ext K ι H ι' H' → Sim K ι' H' M' → G.ea K ι' H' c p cls oe → W cls oe σ H'
def GoX {α : Type} (G : GX) (K : PySem.W.Frag) (W : WX) (σ : L2.St) (ι : Pl) (H : Hp) (x : Out α) (R : α → Ar → Prop) : Prop := match x with
  | .ok a M' => R a M'
  | .exc c p M' => XW G K W σ ι H c p M'
  | .stuck => False
section
variable {α β : Type} {G : GX} {K : PySem.W.Frag} {W : WX} {σ : L2.St} {ι ι' : Pl} {H H' : Hp} {M : Ar}
theorem GoX.bnd {x : Md α} {k : α → Md β} {R : β → Ar → Prop} (h : GoX G K W σ ι H (bnd x k M) R) : GoX G K W σ ι H (x M) fun a M1 => GoX G K W σ ι H (k a M1) R := by
  unfold Q.bnd at h
  cases e : x M with
  | ok a M1 => rw [e] at h; exact h
  | exc c p M1 => rw [e] at h; exact h
  | stuck => rw [e] at h; exact h
theorem GoX.mono {x : Out α} {R R' : α → Ar → Prop} (h : GoX G K W σ ι H x R) (f : ∀ a M, R a M → R' a M) : GoX G K W σ ι H x R' := by
  cases x with
  | ok a M => exact f a M h
  | exc c p M => exact h
  | stuck => exact h
theorem GoX.later {x : Out α} {R : α → Ar → Prop} (h : GoX G K W σ ι H x R) (e : Ext K ι H ι' H') : GoX G K W σ ι' H' x R := by
  cases x with
  | ok a M => exact h
  | exc c p M => exact fun ι'' cls oe H'' e' => h ι'' cls oe H'' (e.trans e')
  | stuck => exact h
theorem GoX.opt {f : Ar → Option α} {R : α → Ar → Prop} (h : GoX G K W σ ι H (opt f M) R) : ∃ a, f M = some a ∧ R a M := by
  unfold Q.opt at h
  cases e : f M with
  | none => rw [e] at h; exact False.elim h
  | some a => rw [e] at h; exact ⟨a, rfl, h⟩
theorem GoX.ret {a : α} {R : α → Ar → Prop} (h : GoX G K W σ ι H (ret a M) R) : R a M := h
theorem GoX.stk {R : α → Ar → Prop} (h : GoX G K W σ ι H (stk M) R) : False := h
end

/-- what comes behind a value -/
def FinE (K : PySem.W.Frag) (ι : Pl) (H : Hp) (Q : VK) : Rv → Ar → Prop := fun r M' => ∀ ι' v H', Ext K ι H ι' H' → RepR K H ι' H' v r → Sim K ι' H' M' → Q v H'
def FinB (K : PySem.W.Frag) (ι : Pl) (H : Hp) (Q : Bool → Hp → Prop) : Bool → Ar → Prop := fun b M' => ∀ ι' H', Ext K ι H ι' H' → Sim K ι' H' M' → Q b H'
def FinA (K : PySem.W.Frag) (ι : Pl) (H : Hp) (Q : List V → Hp → Prop) : List D → Ar → Prop := fun ds M' => ∀ ι' vs H', Ext K ι H ι' H' → Reps K ι' H' vs ds → Sim K ι' H' M' → Q vs H'
def FinR (K : PySem.W.Frag) (ι : Pl) (H : Hp) (Q : List V → Hp → Prop) : List Rv → Ar → Prop := fun rs M' => ∀ ι' vs H', Ext K ι H ι' H' → RepRs K ι' H' vs rs → Sim K ι' H' M' → Q vs H'
def liftE (G : GX) (K : PySem.W.Frag) (W : WX) (f : Env → Md Rv) : TE := fun σ H Q => ∃ ι env M, RepSt K ι H σ env ∧ Sim K ι H M ∧ GoX G K W σ ι H (f env M) (FinE K ι H Q)
def liftB (G : GX) (K : PySem.W.Frag) (W : WX) (f : Env → Md Bool) : TT := fun σ H Q => ∃ ι env M, RepSt K ι H σ env ∧ Sim K ι H M ∧ GoX G K W σ ι H (f env M) (FinB K ι H Q)
def liftA (G : GX) (K : PySem.W.Frag) (W : WX) (f : Env → Md (List D)) : TA := fun σ H Q => ∃ ι env M, RepSt K ι H σ env ∧ Sim K ι H M ∧ GoX G K W σ ι H (f env M) (FinA K ι H Q)
def liftR (G : GX) (K : PySem.W.Frag) (W : WX) (f : Env → Md (List Rv)) : TA := fun σ H Q => ∃ ι env M, RepSt K ι H σ env ∧ Sim K ι H M ∧ GoX G K W σ ι H (f env M) (FinR K ι H Q)

theorem _root_.L2.PE.weak {X : Cx} {e : Expr} {t t' : TE} (h : PE X e t) (w : ∀ σ H Q, t' σ H Q → t σ H Q) : PE X e t' := ⟨fun pins s σ H Q I q => h.run pins s σ H Q I (w σ H Q q)⟩
theorem _root_.L2.PT.weak {X : Cx} {e : Expr} {t t' : TT} (h : PT X e t) (w : ∀ σ H Q, t' σ H Q → t σ H Q) : PT X e t' := ⟨fun pins s σ H Q I q => h.run pins s σ H Q I (w σ H Q q)⟩
theorem _root_.L2.PW.weak {X : Cx} {e : Expr} {t t' : TT} (h : PW X e t) (w : ∀ σ H Q, t' σ H Q → t σ H Q) : PW X e t' := ⟨fun wh pins s σ H Q I q => h.run wh pins s σ H Q I (w σ H Q q)⟩
theorem _root_.L2.PA.weak {X : Cx} {e : List Expr} {t t' : TA} (h : PA X e t) (w : ∀ σ H Q, t' σ H Q → t σ H Q) : PA X e t' := ⟨fun pos pins s σ H Q I q => h.run pos pins s σ H Q I (w σ H Q q)⟩
theorem _root_.L2.PS.weak {X : Cx} {e : Stmt} {t t' : TS} (h : PS X e t) (w : ∀ D σ H, t' D σ H → t D σ H) : PS X e t' := ⟨fun pins s σ H D I q => h.run pins s σ H D I (w D σ H q)⟩
theorem _root_.L2.PSs.weak {X : Cx} {e : List Stmt} {t t' : TS} (h : PSs X e t) (w : ∀ D σ H, t' D σ H → t D σ H) : PSs X e t' := ⟨fun pins s σ H D I q => h.run pins s σ H D I (w D σ H q)⟩

section
variable {G : GX} {X : Cx} {W : WX} {a b c : Expr} {f g k : Env → Md Rv} {pos : Pos}
abbrev DE (G : GX) (X : Cx) (W : WX) (e : Expr) (f : Env → Md Rv) : Prop := PE X e (liftE G X.K W f)
abbrev DT (G : GX) (X : Cx) (W : WX) (e : Expr) (f : Env → Md Bool) : Prop := PT X e (liftB G X.K W f)
abbrev DW (G : GX) (X : Cx) (W : WX) (e : Expr) (f : Env → Md Bool) : Prop := PW X e (liftB G X.K W f)

theorem FinE.go {K : PySem.W.Frag} {ι ι1 ι' : Pl} {H H1 H' : Hp} {Q : VK} {r : Rv} {M' : Ar} {v : V} (h : FinE K ι H Q r M') (e1 : Ext K ι H ι1 H1) (e2 : Ext K ι1 H1 ι' H') (rr : RepR K H1 ι' H' v r) (S : Sim K ι' H' M') : Q v H' :=
  h ι' v H' (e1.trans e2) (rr.back fun _ z => e1.noneB z) S

theorem de_var {i : Nat} {x : Str} (h : PE X (.Name x pos) (tVar i)) : DE G X W (.Name x pos) fun env => getV env i := h.weak fun σ H Q ⟨ι, env, M, rs, S, go⟩ => by
  have go : GoX G X.K W σ ι H (getV env i M) (FinE X.K ι H Q) := go
  unfold getV at go
  cases e : env[i]? with
  | none => rw [e] at go; exact False.elim go
  | some o =>
    cases o with
    | none => rw [e] at go; exact False.elim go
    | some d =>
      rw [e] at go
      obtain ⟨v, h1, h2⟩ := rs i d e
      exact ⟨v, h1, go ι v H Ext.refl h2 S⟩
theorem de_cst {e : Expr} {d : D} {v : V} (h : PE X e (tC v)) (r : ∀ ι H, Rep X.K ι H v d) : DE G X W e fun _ => ret (.d d) := h.weak fun σ H Q ⟨ι, env, M, rs, S, go⟩ => go ι v H Ext.refl (r ι H) S
theorem de_never {e : Expr} : DE G X W e fun _ => stk := ⟨fun pins s σ H Q I ⟨_, _, _, _, _, go⟩ => False.elim go⟩
theorem de_bin (o : Bop) (ha : DE G X W a f) (hb : DE G X W b g) : DE G X W (.BinOp a (bopA o) b pos) fun env => bnd (f env) fun x => bnd (g env) fun y => opt (binop o x y) :=
  (pe_op (op_bin o) ha hb).weak fun σ H Q ⟨ι, env, M, rs, S, go⟩ =>
    ⟨ι, env, M, rs, S, go.bnd.mono fun r1 M1 h1 ι1 v1 H1 e1 rr1 S1 => ⟨ι1, env, M1, rs.ext e1, S1, (h1.bnd.later e1).mono fun r2 M2 h2 ι2 v2 H2 e2 rr2 S2 => by
      obtain ⟨r, e, q⟩ := h2.opt
      exact ⟨H, H1, ι2, M2, r1, r2, r, rr1.ext e2, rr2, S2, e, fun H' v e3 rr3 S3 => FinE.go q (e1.trans e2) e3 rr3 S3⟩⟩⟩
theorem cmp_weak {o : Cop} {σ : L2.St} {H : Hp} {Q : VK} (h : liftE G X.K W (fun env => bnd (f env) fun x => bnd (g env) fun y => bnd (opt (cmpop o x y)) fun r => ret (.d (.bl r))) σ H Q) :
    tOp (rCp X.K (cmpop o)) (liftE G X.K W f) (liftE G X.K W g) σ H Q := by
  obtain ⟨ι, env, M, rs, S, go⟩ := h
  exact ⟨ι, env, M, rs, S, go.bnd.mono fun r1 M1 h1 ι1 v1 H1 e1 rr1 S1 => ⟨ι1, env, M1, rs.ext e1, S1, (h1.bnd.later e1).mono fun r2 M2 h2 ι2 v2 H2 e2 rr2 S2 => by
    obtain ⟨r, e, q⟩ := h2.bnd.opt
    exact ⟨H, H1, ι2, M2, r1, r2, r, rr1.ext e2, rr2, S2, e, GoX.ret q ι2 _ H2 (e1.trans e2) (.bl r) S2⟩⟩⟩
theorem de_cmp (hu : X.A.units + 65 < cLine) (o : Cop) (hm : behindInMarks (copA o) b = false) (ha : DE G X W a f) (hb : DE G X W b g) :
    DE G X W (.Compare a [copA o] [b] pos) fun env => bnd (f env) fun x => bnd (g env) fun y => bnd (opt (cmpop o x y)) fun r => ret (.d (.bl r)) :=
  (pe_cmpR (op_cmp hu o) ha hb hm).weak fun σ H Q h => cmp_weak h
/-- a value that is a bool, as a test -/
def asBool (f : Env → Md Rv) : Env → Md Bool := fun env => bnd (f env) asB
theorem asB_go {K : PySem.W.Frag} {σ : L2.St} {ι : Pl} {H : Hp} {r : Rv} {M : Ar} {R : Bool → Ar → Prop} (h : GoX G K W σ ι H (asB r M) R) : ∃ k, r = .d (.bl k) ∧ R k M := by
  cases r with
  | l _ => exact False.elim h
  | m _ _ _ => exact False.elim h
  | d d =>
    cases d with
    | bl k => exact ⟨k, rfl, h⟩
    | _ => exact False.elim h
theorem bool_weak {σ : L2.St} {H : Hp} {Q : Bool → Hp → Prop} (h : liftB G X.K W (asBool f) σ H Q) : liftE G X.K W f σ H fun x H1 => ∃ k, x = .bl k ∧ Q k H1 := by
  obtain ⟨ι, env, M, rs, S, go⟩ := h
  refine ⟨ι, env, M, rs, S, go.bnd.mono fun r1 M1 h1 ι1 v1 H1 e1 rr1 S1 => ?_⟩
  obtain ⟨k, rfl, q⟩ := asB_go h1
  exact ⟨k, Rep.bl_of rr1, q ι1 H1 e1 S1⟩
theorem dt_val {e : Expr} (h : DE G X W e f) (he : ∀ whole, isTrue e X.env whole = (do let v ← whole; standAt e.pos; holding [v] (truthy v))) : DT G X W e (asBool f) := (pt_val h he).weak fun σ H Q q => bool_weak q
theorem mono_liftE {σ : L2.St} {H : Hp} {Q Q' : VK} (h : liftE G X.K W f σ H Q) (m : ∀ v H, Q v H → Q' v H) : liftE G X.K W f σ H Q' := by
  obtain ⟨ι, env, M, rs, S, go⟩ := h
  exact ⟨ι, env, M, rs, S, go.mono fun r1 M1 h1 ι1 v1 H1 e1 rr1 S1 => m _ _ (h1 ι1 v1 H1 e1 rr1 S1)⟩
theorem dt_cmp (hu : X.A.units + 65 < cLine) (o : Cop) (hm : behindInMarks (copA o) b = false) (ha : DE G X W a f) (hb : DE G X W b g) :
    DT G X W (.Compare a [copA o] [b] pos) (asBool fun env => bnd (f env) fun x => bnd (g env) fun y => bnd (opt (cmpop o x y)) fun r => ret (.d (.bl r))) :=
  (pt_cmpR (op_cmp hu o) ha hb hm).weak fun σ H Q h => by
    have := cmp_weak (bool_weak h)
    exact this
theorem chain_weak {o p : Cop} {σ : L2.St} {H : Hp} {Q : VK} (h : liftE G X.K W (fun env => bnd (f env) fun x => bnd (g env) fun y => bnd (opt (cmpop o x y)) fun
      | true => bnd (k env) fun z => bnd (opt (cmpop p y z)) fun r => ret (.d (.bl r))
      | false => ret (.d (.bl false))) σ H Q) :
    tChain (rCp X.K (cmpop o)) (rCp X.K (cmpop p)) (liftE G X.K W f) (liftE G X.K W g) (liftE G X.K W k) σ H Q := by
  obtain ⟨ι, env, M, rs, S, go⟩ := h
  refine ⟨ι, env, M, rs, S, go.bnd.mono fun r1 M1 h1 ι1 v1 H1 e1 rr1 S1 => ⟨ι1, env, M1, rs.ext e1, S1, (h1.bnd.later e1).mono fun r2 M2 h2 ι2 v2 H2 e2 rr2 S2 => ?_⟩⟩
  obtain ⟨r, e, q⟩ := h2.bnd.opt
  refine ⟨H, H1, ι2, M2, r1, r2, r, rr1.ext e2, rr2, S2, e, r, rfl, ?_⟩
  cases r with
  | false => exact GoX.ret q ι2 _ H2 (e1.trans e2) (.bl false) S2
  | true =>
    refine ⟨ι2, env, M2, (rs.ext e1).ext e2, S2, ((GoX.bnd q).later (e1.trans e2)).mono fun r3 M3 h3 ι3 v3 H3 e3 rr3 S3 => ?_⟩
    obtain ⟨r', e', q'⟩ := h3.bnd.opt
    exact ⟨H1, H2, ι3, M3, r2, r3, r', rr2.ext e3, rr3, S3, e', GoX.ret q' ι3 _ H3 (e1.trans (e2.trans e3)) (.bl r') S3⟩
theorem de_chain (hu : X.A.units + 65 < cLine) (o p : Cop) (hm1 : behindInMarks (copA o) b = false) (hm2 : behindInMarks (copA p) c = false) (ha : DE G X W a f) (hb : DE G X W b g) (hc : DE G X W c k)
    (hR : PE X (.Compare a [copA o, copA p] [b, c] pos) (tChain (rCp X.K (cmpop o)) (rCp X.K (cmpop p)) (liftE G X.K W f) (liftE G X.K W g) (liftE G X.K W k))) :
    DE G X W (.Compare a [copA o, copA p] [b, c] pos) fun env => bnd (f env) fun x => bnd (g env) fun y => bnd (opt (cmpop o x y)) fun
      | true => bnd (k env) fun z => bnd (opt (cmpop p y z)) fun r => ret (.d (.bl r))
      | false => ret (.d (.bl false)) := hR.weak fun σ H Q h => chain_weak h
end
end Q
end

section
set_option Elab.async false
set_option linter.all false
set_option maxRecDepth 100000
set_option maxHeartbeats 4000000
namespace Q
open PySem PySem.Spec PyProof.Rows L2
section
variable {G : GX} {X : Cx} {W : WX} {a b c : Expr} {f g k : Env → Md Rv} {pos : Pos} {rest : List Expr}
/-! ### and, or, not, if -/
def sAnd (f g : Env → Md Rv) : Env → Md Rv := fun env => bnd (bnd (f env) asB) fun
  | true => bnd (bnd (g env) asB) fun r => ret (.d (.bl r))
  | false => ret (.d (.bl false))
def sOr (f g : Env → Md Rv) : Env → Md Rv := fun env => bnd (bnd (f env) asB) fun
  | true => ret (.d (.bl true))
  | false => bnd (bnd (g env) asB) fun r => ret (.d (.bl r))
def sNot (f : Env → Md Rv) : Env → Md Rv := fun env => bnd (bnd (f env) asB) fun b => ret (.d (.bl (!b)))
def sIte (c f g : Env → Md Rv) : Env → Md Rv := fun env => bnd (bnd (c env) asB) fun
  | true => f env
  | false => g env
theorem asBool_go {K : PySem.W.Frag} {σ : L2.St} {ι : Pl} {H : Hp} {env : Env} {M : Ar} {R : Bool → Ar → Prop} (h : GoX G K W σ ι H (bnd (f env) asB M) R) : GoX G K W σ ι H (f env M) fun r M1 => ∃ k, r = .d (.bl k) ∧ R k M1 :=
  h.bnd.mono fun r M1 h1 => asB_go h1
theorem de_and (ha : DE G X W a f) (hb : DE G X W (.BoolOp .And (b :: rest) pos) g) : DE G X W (.BoolOp .And (a :: b :: rest) pos) (sAnd f g) := (pe_and ha hb).weak fun σ H Q ⟨ι, env, M, rs, S, go⟩ => by
  refine ⟨ι, env, M, rs, S, (asBool_go go.bnd).mono fun r1 M1 ⟨k1, er, h1⟩ ι1 v1 H1 e1 rr1 S1 => ?_⟩
  subst er
  refine ⟨k1, Rep.bl_of rr1, ?_⟩
  cases k1 with
  | false => exact GoX.ret h1 ι1 _ H1 e1 (.bl false) S1
  | true =>
    refine ⟨ι1, env, M1, rs.ext e1, S1, ((asBool_go (GoX.bnd h1)).later e1).mono fun r2 M2 ⟨k2, er, h2⟩ ι2 v2 H2 e2 rr2 S2 => ?_⟩
    subst er
    rw [Rep.bl_of rr2]
    exact GoX.ret h2 ι2 _ H2 (e1.trans e2) (.bl k2) S2
theorem de_or (ha : DE G X W a f) (hb : DE G X W (.BoolOp .Or (b :: rest) pos) g) : DE G X W (.BoolOp .Or (a :: b :: rest) pos) (sOr f g) := (pe_or ha hb).weak fun σ H Q ⟨ι, env, M, rs, S, go⟩ => by
  refine ⟨ι, env, M, rs, S, (asBool_go go.bnd).mono fun r1 M1 ⟨k1, er, h1⟩ ι1 v1 H1 e1 rr1 S1 => ?_⟩
  subst er
  refine ⟨k1, Rep.bl_of rr1, ?_⟩
  cases k1 with
  | true => exact GoX.ret h1 ι1 _ H1 e1 (.bl true) S1
  | false =>
    refine ⟨ι1, env, M1, rs.ext e1, S1, ((asBool_go (GoX.bnd h1)).later e1).mono fun r2 M2 ⟨k2, er, h2⟩ ι2 v2 H2 e2 rr2 S2 => ?_⟩
    subst er
    rw [Rep.bl_of rr2]
    exact GoX.ret h2 ι2 _ H2 (e1.trans e2) (.bl k2) S2
theorem asBool_ret {K : PySem.W.Frag} {σ : L2.St} {ι : Pl} {H : Hp} {x : Md Bool} {M : Ar} {R : Bool → Ar → Prop} (h : GoX G K W σ ι H (bnd (bnd x fun r => ret (.d (.bl r))) asB M) R) : GoX G K W σ ι H (x M) R :=
  h.bnd.bnd.mono fun _ _ h => h
theorem asBool_sAnd {K : PySem.W.Frag} {σ : L2.St} {ι : Pl} {H : Hp} {env : Env} {M : Ar} {R : Bool → Ar → Prop} (h : GoX G K W σ ι H (asBool (sAnd f g) env M) R) :
    GoX G K W σ ι H (asBool f env M) fun b M1 => if b = true then GoX G K W σ ι H (asBool g env M1) R else R false M1 :=
  h.bnd.bnd.mono fun b M1 h1 => by
    cases b with
    | true => exact GoX.bnd h1 |>.mono fun _ _ z => z
    | false => exact h1
theorem asBool_sOr {K : PySem.W.Frag} {σ : L2.St} {ι : Pl} {H : Hp} {env : Env} {M : Ar} {R : Bool → Ar → Prop} (h : GoX G K W σ ι H (asBool (sOr f g) env M) R) :
    GoX G K W σ ι H (asBool f env M) fun b M1 => if b = true then R true M1 else GoX G K W σ ι H (asBool g env M1) R :=
  h.bnd.bnd.mono fun b M1 h1 => by
    cases b with
    | false => exact GoX.bnd h1 |>.mono fun _ _ z => z
    | true => exact h1
theorem dw_and (ha : DT G X W a (asBool f)) (hb : DW G X W (.BoolOp .And (b :: rest) pos) (asBool g)) : DW G X W (.BoolOp .And (a :: b :: rest) pos) (asBool (sAnd f g)) := (pw_and ha hb).weak fun σ H Q ⟨ι, env, M, rs, S, go⟩ => by
  refine ⟨ι, env, M, rs, S, (asBool_sAnd go).mono fun b1 M1 h1 ι1 H1 e1 S1 => ?_⟩
  cases b1 with
  | true => exact ⟨ι1, env, M1, rs.ext e1, S1, (GoX.later h1 e1).mono fun b2 M2 h2 ι2 H2 e2 S2 => h2 ι2 H2 (e1.trans e2) S2⟩
  | false => exact h1 ι1 H1 e1 S1
theorem dw_or (ha : DT G X W a (asBool f)) (hb : DW G X W (.BoolOp .Or (b :: rest) pos) (asBool g)) : DW G X W (.BoolOp .Or (a :: b :: rest) pos) (asBool (sOr f g)) := (pw_or ha hb).weak fun σ H Q ⟨ι, env, M, rs, S, go⟩ => by
  refine ⟨ι, env, M, rs, S, (asBool_sOr go).mono fun b1 M1 h1 ι1 H1 e1 S1 => ?_⟩
  cases b1 with
  | false => exact ⟨ι1, env, M1, rs.ext e1, S1, (GoX.later h1 e1).mono fun b2 M2 h2 ι2 H2 e2 S2 => h2 ι2 H2 (e1.trans e2) S2⟩
  | true => exact h1 ι1 H1 e1 S1
theorem de_not (ha : DE G X W a f) : DE G X W (.UnaryOp .Not a pos) (sNot f) := (pe_not ha).weak fun σ H Q ⟨ι, env, M, rs, S, go⟩ => by
  refine ⟨ι, env, M, rs, S, (asBool_go go.bnd).mono fun r1 M1 ⟨k1, er, h1⟩ ι1 v1 H1 e1 rr1 S1 => ?_⟩
  subst er
  exact ⟨k1, Rep.bl_of rr1, GoX.ret h1 ι1 _ H1 e1 (.bl _) S1⟩
theorem dt_not (ha : DT G X W a (asBool f)) : DT G X W (.UnaryOp .Not a pos) (asBool (sNot f)) := (pt_not ha).weak fun σ H Q ⟨ι, env, M, rs, S, go⟩ =>
  ⟨ι, env, M, rs, S, (GoX.bnd go).bnd.mono fun b1 M1 h1 ι1 H1 e1 S1 => GoX.ret h1 ι1 H1 e1 S1⟩
theorem de_ite (hc : DT G X W c (asBool k)) (ha : DE G X W a f) (hb : DE G X W b g) : DE G X W (.IfExp c a b pos) (sIte k f g) := (pe_ifExp hc ha hb).weak fun σ H Q ⟨ι, env, M, rs, S, go⟩ => by
  refine ⟨ι, env, M, rs, S, go.bnd.mono fun b1 M1 h1 ι1 H1 e1 S1 => ?_⟩
  cases b1 with
  | true => exact ⟨ι1, env, M1, rs.ext e1, S1, (GoX.later h1 e1).mono fun r M2 h2 ι2 v2 H2 e2 rr S2 => FinE.go h2 e1 e2 rr S2⟩
  | false => exact ⟨ι1, env, M1, rs.ext e1, S1, (GoX.later h1 e1).mono fun r M2 h2 ι2 v2 H2 e2 rr S2 => FinE.go h2 e1 e2 rr S2⟩
def sNeg (f : Env → Md Rv) : Env → Md Rv := fun env => bnd (f env) fun
  | .d (.int i) => ret (.d (.int (-i)))
  | _ => stk
theorem de_neg (ha : DE G X W a f) : DE G X W (.UnaryOp .USub a pos) (sNeg f) := (pe_un un_neg ha).weak fun σ H Q ⟨ι, env, M, rs, S, go⟩ => by
  refine ⟨ι, env, M, rs, S, go.bnd.mono fun r1 M1 h1 ι1 v1 H1 e1 rr1 S1 => ?_⟩
  cases r1 with
  | l _ => exact False.elim h1
  | m _ _ _ => exact False.elim h1
  | d d =>
    cases d with
    | int i => exact ⟨i, Rep.int_of rr1, GoX.ret h1 ι1 _ H1 e1 (.int _) S1⟩
    | _ => exact False.elim h1

/-! ### items, slices, displays -/
def sIdx (f g : Env → Md Rv) : Env → Md Rv := fun env => bnd (f env) fun x => bnd (g env) fun y => opt (index x y)
theorem de_idx (hp : PlainIx b) (ha : DE G X W a f) (hb : DE G X W b g) : DE G X W (.Subscript a b pos) (sIdx f g) := (pe_ix ix_ok ha hb hp).weak fun σ H Q ⟨ι, env, M, rs, S, go⟩ =>
  ⟨ι, env, M, rs, S, go.bnd.mono fun r1 M1 h1 ι1 v1 H1 e1 rr1 S1 => ⟨ι1, env, M1, rs.ext e1, S1, (h1.bnd.later e1).mono fun r2 M2 h2 ι2 v2 H2 e2 rr2 S2 => by
    obtain ⟨r, e, q⟩ := h2.opt
    exact ⟨H, H1, ι2, M2, r1, r2, r, rr1.ext e2, rr2, S2, e, fun H' v e3 rr3 S3 => FinE.go q (e1.trans e2) e3 rr3 S3⟩⟩⟩
/-- a part of a slice -/
def liftP (G : GX) (K : PySem.W.Frag) (W : WX) (f : Env → Md (Option Int)) : TO := fun σ H Q => ∃ ι env M, RepSt K ι H σ env ∧ Sim K ι H M ∧ GoX G K W σ ι H (f env M) fun o M' => ∀ ι' H', Ext K ι H ι' H' → Sim K ι' H' M' → Q o H'
theorem _root_.L2.PO.weak {X : Cx} {e : Option Expr} {t t' : TO} (h : PO X e t) (w : ∀ σ H Q, t' σ H Q → t σ H Q) : PO X e t' := ⟨fun pins s σ H Q I q => h.run pins s σ H Q I (w σ H Q q)⟩
theorem dp_none : PO X none (liftP G X.K W fun env => bnd (ret (.d .non)) (partM true)) := po_none.weak fun σ H Q ⟨ι, env, M, rs, S, go⟩ => go ι H Ext.refl S
theorem dp_some (ha : DE G X W a f) : PO X (some a) (liftP G X.K W fun env => bnd (f env) (partM false)) := (po_some ha).weak fun σ H Q ⟨ι, env, M, rs, S, go⟩ => by
  refine ⟨ι, env, M, rs, S, go.bnd.mono fun r1 M1 h1 ι1 v1 H1 e1 rr1 S1 => ?_⟩
  cases r1 with
  | l _ => exact False.elim h1
  | m _ _ _ => exact False.elim h1
  | d d =>
    cases d with
    | int i => exact ⟨i, Rep.int_of rr1, GoX.ret h1 ι1 H1 e1 S1⟩
    | _ => exact False.elim h1
theorem de_slc {lo hi : Option Expr} {p2 : Pos} {fl fh : Env → Md (Option Int)} (ha : DE G X W a f) (hl : PO X lo (liftP G X.K W fl)) (hh : PO X hi (liftP G X.K W fh)) :
    DE G X W (.Subscript a (.Slice lo hi none p2) pos) fun env => bnd (f env) fun x => bnd (fl env) fun l => bnd (fh env) fun h => opt (slice x l h) := (pe_slice sl_ok ha hl hh).weak fun σ H Q ⟨ι, env, M, rs, S, go⟩ =>
  ⟨ι, env, M, rs, S, go.bnd.mono fun r1 M1 h1 ι1 v1 H1 e1 rr1 S1 => ⟨ι1, env, M1, rs.ext e1, S1, (h1.bnd.later e1).mono fun l M2 h2 ι2 H2 e2 S2 =>
    ⟨ι2, env, M2, (rs.ext e1).ext e2, S2, (h2.bnd.later (e1.trans e2)).mono fun h M3 h3 ι3 H3 e3 S3 => by
      obtain ⟨r, e, q⟩ := h3.opt
      exact ⟨H, ι3, M3, r1, r, (rr1.ext e2).ext e3, S3, e, fun H' v e4 rr4 S4 => FinE.go q (e1.trans (e2.trans e3)) e4 rr4 S4⟩⟩⟩⟩
/-- what is new is written no more -/
theorem frz_val {K : PySem.W.Frag} {ι ι1 : Pl} {H H1 : Hp} {r : Rv} {M1 : Ar} {v : V} (e1 : Ext K ι H ι1 H1) (rr : RepR K H ι1 H1 v r) (S1 : Sim K ι1 H1 M1) :
    ∃ ι2, Ext K ι H ι2 H1 ∧ Rep K ι2 H1 v (valR r) ∧ Sim K ι2 H1 M1 := by
  cases r with
  | d d => exact ⟨ι1, e1, rr, S1⟩
  | l ds =>
    obtain ⟨a, vs, rfl, h1, h2, h3, h4⟩ := rr
    exact ⟨ι1.frz a, e1.freeze h2, .vl (.inr rfl) h1 (h4.places Wid.frz), S1.freeze h3 (by rw [h1]; exact fun z => nomatch z)⟩
  | m t ks vs =>
    obtain ⟨a, rfl, h2, h3, h4⟩ := rr
    refine ⟨ι1.frz a, e1.freeze h2, ?_, S1.freeze h3 h4.ne⟩
    cases t with
    | false => obtain ⟨kv, q1, q2, q3⟩ := h4; exact .vdK (.inr rfl) q1 q2 (q3.places Wid.frz)
    | true => obtain ⟨kv, q1, q2, q3⟩ := h4; exact .vdT (.inr rfl) q1 q2 (q3.places Wid.frz)
theorem settle_go {K : PySem.W.Frag} {σ : L2.St} {ι ι1 : Pl} {H H1 : Hp} {r : Rv} {M1 : Ar} {v : V} {R : D → Ar → Prop} (h : GoX G K W σ ι H (settle r M1) R) (e1 : Ext K ι H ι1 H1) (rr : RepR K H ι1 H1 v r) (S1 : Sim K ι1 H1 M1) :
    ∃ d ι2 M2, R d M2 ∧ Ext K ι H ι2 H1 ∧ Rep K ι2 H1 v d ∧ Sim K ι2 H1 M2 := by
  obtain ⟨ι2, q1, q2, q3⟩ := frz_val e1 rr S1
  exact ⟨valR r, ι2, M1, h, q1, q2, q3⟩
/-- what is new gets its place -/
theorem place_go {K : PySem.W.Frag} {σ : L2.St} {ι ι1 : Pl} {H H1 : Hp} {r : Rv} {M1 : Ar} {v : V} {R : D → Ar → Prop} (h : GoX G K W σ ι H (place r M1) R) (e1 : Ext K ι H ι1 H1) (rr : RepR K H ι1 H1 v r) (S1 : Sim K ι1 H1 M1) :
    ∃ d ι2 M2, R d M2 ∧ Ext K ι H ι2 H1 ∧ Rep K ι2 H1 v d ∧ Sim K ι2 H1 M2 := by
  cases r with
  | d d => exact ⟨d, ι1, M1, h, e1, rr, S1⟩
  | l ds =>
    obtain ⟨a, vs, rfl, h1, h2, h3, h4⟩ := rr
    refine ⟨.ref M1.length, ι1.add a, _, h, e1.place h2, .ref ?_, S1.place h3 h1 h4⟩
    show (ι1.at_ ++ [a])[M1.length]? = _
    rw [← S1.len, List.getElem?_append_right (Nat.le_refl _), Nat.sub_self]
    rfl
  | m t ks vs =>
    obtain ⟨a, rfl, h2, h3, h4⟩ := rr
    refine ⟨.ref M1.length, ι1.add a, _, h, e1.place h2, .ref ?_, S1.placeO h3 h4⟩
    show (ι1.at_ ++ [a])[M1.length]? = _
    rw [← S1.len, List.getElem?_append_right (Nat.le_refl _), Nat.sub_self]
    rfl
def sCons (f : Env → Md Rv) (t : Env → Md (List D)) : Env → Md (List D) := fun env => bnd (bnd (f env) settle) fun d => bnd (t env) fun ds => ret (d :: ds)
def sPlc (f : Env → Md Rv) (t : Env → Md (List D)) : Env → Md (List D) := fun env => bnd (bnd (f env) place) fun d => bnd (t env) fun ds => ret (d :: ds)
def sStar (f : Env → Md Rv) (t : Env → Md (List D)) : Env → Md (List D) := fun env => bnd (f env) fun x => bnd (opt fun M => asS M x) fun xs => bnd (t env) fun ds => ret (xs ++ ds)
abbrev DA (G : GX) (X : Cx) (W : WX) (es : List Expr) (t : Env → Md (List D)) : Prop := PA X es (liftA G X.K W t)
theorem da_nil : DA G X W [] fun _ => ret [] := pa_nil.weak fun σ H Q ⟨ι, env, M, rs, S, go⟩ => go ι [] H Ext.refl .nil S
theorem da_cons {t : Env → Md (List D)} (ha : DE G X W a f) (hr : DA G X W rest t) (hs : starEach (a :: rest) X.env = (false, eval a X.env) :: starEach rest X.env) : DA G X W (a :: rest) (sCons f t) := (pa_cons ha hr hs).weak fun σ H Q ⟨ι, env, M, rs, S, go⟩ =>
  ⟨ι, env, M, rs, S, go.bnd.bnd.mono fun r1 M1 h1 ι1 v1 H1 e1 rr1 S1 => by
    obtain ⟨d, ι2, M2, h2, e2, rd, S2⟩ := settle_go h1 e1 rr1 S1
    exact ⟨ι2, env, M2, rs.ext e2, S2, (h2.bnd.later e2).mono fun ds M3 h3 ι3 vs H3 e3 rds S3 => GoX.ret h3 ι3 _ H3 (e2.trans e3) (.cons (rd.ext e3) rds) S3⟩⟩
theorem da_plc {t : Env → Md (List D)} (ha : DE G X W a f) (hr : DA G X W rest t) (hs : starEach (a :: rest) X.env = (false, eval a X.env) :: starEach rest X.env) : DA G X W (a :: rest) (sPlc f t) := (pa_cons ha hr hs).weak fun σ H Q ⟨ι, env, M, rs, S, go⟩ =>
  ⟨ι, env, M, rs, S, go.bnd.bnd.mono fun r1 M1 h1 ι1 v1 H1 e1 rr1 S1 => by
    obtain ⟨d, ι2, M2, h2, e2, rd, S2⟩ := place_go h1 e1 rr1 S1
    exact ⟨ι2, env, M2, rs.ext e2, S2, (h2.bnd.later e2).mono fun ds M3 h3 ι3 vs H3 e3 rds S3 => GoX.ret h3 ι3 _ H3 (e2.trans e3) (.cons (rd.ext e3) rds) S3⟩⟩
theorem da_star {t : Env → Md (List D)} {p : Pos} (ha : DE G X W a f) (hr : DA G X W rest t) : DA G X W (.Starred a p :: rest) (sStar f t) := (StX.pa_star ha hr rfl).weak fun σ H Q ⟨ι, env, M, rs, S, go⟩ =>
  ⟨ι, env, M, rs, S, go.bnd.mono fun r1 M1 h1 ι1 v1 H1 e1 rr1 S1 => by
    obtain ⟨ds, e, h2⟩ := h1.bnd.opt
    obtain ⟨p, vs, rfl, hs, rp⟩ := asS_of S1 rr1 e
    exact ⟨p, vs, rfl, hs.symm, ι1, env, M1, rs.ext e1, S1, ((GoX.bnd h2).later e1).mono fun es M3 h3 ι3 ws H3 e3 rds S3 => GoX.ret h3 ι3 _ H3 (e1.trans e3) ((rp.ext e3).append rds) S3⟩⟩
def sTup (t : Env → Md (List D)) : Env → Md Rv := fun env => bnd (t env) fun ds => if ds.length ≤ line then ret (.d (.tup ds)) else stk
def sLst (t : Env → Md (List D)) : Env → Md Rv := fun env => bnd (t env) fun ds => if ds.length ≤ line then ret (.l ds) else stk
theorem de_tup {es : List Expr} {k : Nat} {t : Env → Md (List D)} (h : DA G X W es t) : DE G X W (.Tuple es k pos) (sTup t) := (pe_tup h).weak fun σ H Q ⟨ι, env, M, rs, S, go⟩ =>
  ⟨ι, env, M, rs, S, go.bnd.mono fun ds M1 h1 ι1 vs H1 e1 rds S1 => by
    by_cases hl : ds.length ≤ line
    · rw [if_pos hl] at h1
      refine ⟨by rw [rds.length]; exact Nat.le_trans hl line_le, new_tup S1 rds fun H' v e2 rr S2 => GoX.ret h1 ι1 v H' (e1.trans e2) rr S2⟩
    · rw [if_neg hl] at h1
      exact False.elim h1⟩
theorem de_lst {es : List Expr} {t : Env → Md (List D)} (h : DA G X W es t) : DE G X W (.List es pos) (sLst t) := (pe_lst h).weak fun σ H Q ⟨ι, env, M, rs, S, go⟩ =>
  ⟨ι, env, M, rs, S, go.bnd.mono fun ds M1 h1 ι1 vs H1 e1 rds S1 => by
    by_cases hl : ds.length ≤ line
    · rw [if_pos hl] at h1
      refine ⟨by rw [rds.length]; exact Nat.le_trans hl line_le, new_list S1 rds fun H' v e2 rr S2 => FinE.go (GoX.ret h1) e1 e2 rr S2⟩
    · rw [if_neg hl] at h1
      exact False.elim h1⟩

/-! ### built-in functions, calls -/
abbrev DR (G : GX) (X : Cx) (W : WX) (es : List Expr) (t : Env → Md (List Rv)) : Prop := PA X es (liftR G X.K W t)
def sRcons (f : Env → Md Rv) (t : Env → Md (List Rv)) : Env → Md (List Rv) := fun env => bnd (f env) fun d => bnd (t env) fun ds => ret (d :: ds)
theorem RepRs.ext {K : PySem.W.Frag} {ι ι' : Pl} {H H' : Hp} (e : Ext K ι H ι' H') : ∀ {vs : List V} {rs : List Rv}, RepRs K ι H vs rs → RepRs K ι' H' vs rs
  | _, _, .nil => .nil
  | _, _, .cons h t => .cons (RepR.ext e h) (RepRs.ext e t)
theorem dr_nil : DR G X W [] fun _ => ret [] := pa_nil.weak fun σ H Q ⟨ι, env, M, rs, S, go⟩ => go ι [] H Ext.refl .nil S
theorem dr_cons {t : Env → Md (List Rv)} (ha : DE G X W a f) (hr : DR G X W rest t) (hs : starEach (a :: rest) X.env = (false, eval a X.env) :: starEach rest X.env) : DR G X W (a :: rest) (sRcons f t) := (pa_cons ha hr hs).weak fun σ H Q ⟨ι, env, M, rs, S, go⟩ =>
  ⟨ι, env, M, rs, S, go.bnd.mono fun r1 M1 h1 ι1 v1 H1 e1 rr1 S1 =>
    ⟨ι1, env, M1, rs.ext e1, S1, (h1.bnd.later e1).mono fun ds M3 h3 ι3 vs H3 e3 rds S3 => GoX.ret h3 ι3 _ H3 (e1.trans e3) (.cons (rr1.ext e3) rds) S3⟩⟩
def sBlt (b : Blt) (t : Env → Md (List Rv)) : Env → Md Rv := fun env => bnd (t env) fun xs => opt (builtin b xs)
theorem blt_weak {b : Blt} {t : Env → Md (List Rv)} {σ : L2.St} {H : Hp} {Q : VK} (h : liftE G X.K W (sBlt b t) σ H Q) : tCB (rBi X.K b) (liftR G X.K W t) σ H Q := by
  obtain ⟨ι, env, M, rs, S, go⟩ := h
  refine ⟨ι, env, M, rs, S, go.bnd.mono fun xs M1 h1 ι1 vs H1 e1 rr S1 => ?_⟩
  obtain ⟨r, e, q⟩ := h1.opt
  exact ⟨ι1, M1, xs, r, rr, S1, e, fun H' v e2 rr2 S2 => FinE.go q e1 e2 rr2 S2⟩
/-- a def's promise by what it computes -/
def spD (G : GX) (K : PySem.W.Frag) (n : Nat) (F : List D → Md Rv) : Sp := fun vs H Q E => vs.length = n ∧ ∃ ι M ds, Reps K ι H vs ds ∧ Sim K ι H M ∧ match F ds M with
  | .ok r M' => ∀ ι' v H', Ext K ι H ι' H' → RepR K H ι' H' v r → Sim K ι' H' M' → Q v H'
  | .exc c p M' => ∀ ι' cls oe H', Ext K ι H ι' H' → Sim K ι' H' M' → G.ea K ι' H' c p cls oe → E cls oe H'
  | .stuck => False
/-- fewer places -/
structure Low (n : Nat) (ι ι' : Pl) : Prop where
  at_ : ∀ (k : Nat) (a : Addr), k < n → ι.at_[k]? = some a → ι'.at_[k]? = some a
  fz : ∀ a, ι.fz a → ι'.fz a
mutual
theorem Rep.lower {K : PySem.W.Frag} {ι ι' : Pl} {H : Hp} {n : Nat} (e : Low n ι ι') : ∀ {v : V} {d : D}, d.refsLt n = true → Rep K ι H v d → Rep K ι' H v d
  | _, _, _, .non => .non
  | _, _, _, .bl b => .bl b
  | _, _, _, .int i => .int i
  | _, _, _, .str x => .str x
  | _, _, h, .tup q r => .tup q (Reps.lower e h r)
  | _, _, h, .rl q r => .rl q (Reps.lower e h r)
  | _, _, h, .vl f q r => .vl (e.fz _ f) q (Reps.lower e h r)
  | _, _, h, .vdK f q k r => .vdK (e.fz _ f) q k (Reps.lower e h r)
  | _, _, h, .vdT f q k r => .vdT (e.fz _ f) q k (Reps.lower e h r)
  | _, _, h, .ref q => .ref (e.at_ _ _ (by simpa [D.refsLt] using h) q)
theorem Reps.lower {K : PySem.W.Frag} {ι ι' : Pl} {H : Hp} {n : Nat} (e : Low n ι ι') : ∀ {vs : List V} {ds : List D}, D.refsLt_all n ds = true → Reps K ι H vs ds → Reps K ι' H vs ds
  | _, _, _, .nil => .nil
  | _, _, h, .cons q r => .cons (Rep.lower e (Bool.and_eq_true_iff.mp h).1 q) (Reps.lower e (Bool.and_eq_true_iff.mp h).2 r)
end
mutual
theorem Rep.refs {K : PySem.W.Frag} {ι : Pl} {H : Hp} : ∀ {v : V} {d : D}, Rep K ι H v d → d.refsLt ι.at_.length = true
  | _, _, .non => rfl
  | _, _, .bl b => rfl
  | _, _, .int i => rfl
  | _, _, .str x => rfl
  | _, _, .tup q r => Reps.refs r
  | _, _, .rl q r => Reps.refs r
  | _, _, .vl f q r => Reps.refs r
  | _, _, .vdK f q k r => Reps.refs r
  | _, _, .vdT f q k r => Reps.refs r
  | _, _, .ref q => by
    have := (List.getElem?_eq_some_iff.mp q).1
    simpa [D.refsLt] using this
theorem Reps.refs {K : PySem.W.Frag} {ι : Pl} {H : Hp} : ∀ {vs : List V} {ds : List D}, Reps K ι H vs ds → D.refsLt_all ι.at_.length ds = true
  | _, _, .nil => rfl
  | _, _, .cons q r => Bool.and_eq_true_iff.mpr ⟨Rep.refs q, Reps.refs r⟩
end
theorem okOld_get {n : Nat} : ∀ {M M' : Ar}, okOld n M M' = true → ∀ {i : Nat} {o : Ob}, M[i]? = some o → ∃ o', M'[i]? = some o' ∧ (o'.refsLt n = true ∨ o' = o)
  | [], _, _, i, o, h => by simp at h
  | o :: os, [], h, _, _, _ => by simp [okOld] at h
  | o :: os, o' :: os', h, 0, u, e => by
    obtain ⟨h1, _⟩ := Bool.and_eq_true_iff.mp h
    simp at e
    subst e
    refine ⟨o', rfl, ?_⟩
    rcases Bool.or_eq_true_iff.mp h1 with h1 | h1
    · exact .inl h1
    · exact .inr (Ob.eqb_eq h1)
  | o :: os, o' :: os', h, i + 1, u, e => by
    obtain ⟨_, h2⟩ := Bool.and_eq_true_iff.mp h
    simpa using okOld_get h2 (i := i) (by simpa using e)
theorem RepO.lower {K : PySem.W.Frag} {ι ι' : Pl} {H : Hp} {n : Nat} (e : Low n ι ι') {a : Addr} {o : Ob} (h : o.refsLt n = true) (r : RepO K ι H a o) : RepO K ι' H a o := by
  cases o with
  | lst ds => obtain ⟨vs, h1, h2⟩ := r; exact ⟨vs, h1, h2.lower e h⟩
  | spn => exact r
  | dct t dks dvs => cases t <;> (obtain ⟨vs, h1, h2, h3⟩ := r; exact ⟨vs, h1, h2, h3.lower e h⟩)
theorem RepO.refs {K : PySem.W.Frag} {ι : Pl} {H : Hp} {a : Addr} {o : Ob} (r : RepO K ι H a o) : o.refsLt ι.at_.length = true := by
  cases o with
  | lst ds => obtain ⟨vs, h1, h2⟩ := r; exact h2.refs
  | spn => exact False.elim r
  | dct t dks dvs => cases t <;> (obtain ⟨kv, h1, h2, h3⟩ := r; exact h3.refs)
/-- what is released: all places from b on but one -/
def Pl.rel (ι ι' : Pl) (b av : Nat) : Pl := ⟨ι.at_, fun a => ι'.fz a ∨ ∃ n, b ≤ n ∧ n ≠ av ∧ ι'.at_[n]? = some a⟩
theorem rel_many {K : PySem.W.Frag} {ι ι' : Pl} {H : Hp} {f : D → Option D} : ∀ {ds es : List D} {vs : List V}, (∀ d ∈ ds, ∀ v e, Rep K ι H v d → f d = some e → Rep K ι' H v e) → Reps K ι H vs ds → ds.mapM f = some es → Reps K ι' H vs es
  | [], es, _, q, .nil, h => by
    rw [List.mapM_nil] at h
    cases h
    exact .nil
  | d :: ds, es, _, q, .cons r rs, h => by
    obtain ⟨y, r', e1, e2, rfl⟩ := mapM_cons h
    exact .cons (q d List.mem_cons_self _ _ r e1) (rel_many (fun d hd => q d (List.mem_cons_of_mem _ hd)) rs e2)
theorem relD_ok {K : PySem.W.Frag} {ι ι' : Pl} {H' : Hp} {M' : Ar} {b av : Nat} (hb : ι.at_.length = b) (pre : ∀ (n : Nat) (a : Addr), ι.at_[n]? = some a → ι'.at_[n]? = some a) (S' : Sim K ι' H' M') : ∀ (k : Nat) (d : D) (v : V) (d' : D), Rep K ι' H' v d → relD M' b av k d = some d' → Rep K (ι.rel ι' b av) H' v d'
  | 0, _, _, _, _, h => by simp [relD] at h
  | k + 1, d, v, d', r, h => by
    have ih := relD_ok hb pre S' (av := av) k
    cases r with
    | non => simp [relD] at h; subst h; exact .non
    | bl b => simp [relD] at h; subst h; exact .bl b
    | int b => simp [relD] at h; subst h; exact .int b
    | str b => simp [relD] at h; subst h; exact .str b
    | tup q r =>
      simp only [relD] at h
      obtain ⟨es, e, rfl⟩ := Option.map_eq_some_iff.mp h
      exact .tup q (rel_many (fun d _ v e => ih d v e) r e)
    | rl q r =>
      simp only [relD] at h
      obtain ⟨es, e, rfl⟩ := Option.map_eq_some_iff.mp h
      exact .rl q (rel_many (fun d _ v e => ih d v e) r e)
    | vl f q r =>
      simp only [relD] at h
      obtain ⟨es, e, rfl⟩ := Option.map_eq_some_iff.mp h
      exact .vl (.inl f) q (rel_many (fun d _ v e => ih d v e) r e)
    | vdK f q kk r =>
      simp only [relD] at h
      obtain ⟨es, e, rfl⟩ := Option.map_eq_some_iff.mp h
      exact .vdK (.inl f) q kk (rel_many (fun d _ v e => ih d v e) r e)
    | vdT f q kk r =>
      simp only [relD] at h
      obtain ⟨es, e, rfl⟩ := Option.map_eq_some_iff.mp h
      exact .vdT (.inl f) q kk (rel_many (fun d _ v e => ih d v e) r e)
    | @ref a n q =>
      simp only [relD] at h
      by_cases hn : n < b
      · rw [if_pos hn] at h; cases h
        have hn' : n < ι.at_.length := by rw [hb]; exact hn
        have := pre n _ (List.getElem?_eq_getElem hn')
        rw [q] at this; cases this
        exact .ref (List.getElem?_eq_getElem hn')
      · rw [if_neg hn] at h
        by_cases ha : n = av
        · rw [if_pos ha] at h; cases h
        · rw [if_neg ha] at h
          have fr : (ι.rel ι' b av).fz a := .inr ⟨n, Nat.le_of_not_lt hn, ha, q⟩
          cases hm : M'[n]? with
          | none => rw [hm] at h; cases h
          | some o =>
            rw [hm] at h
            have ro := S'.ob n a o q hm
            cases o with
            | lst ds =>
              obtain ⟨es, e, rfl⟩ := Option.map_eq_some_iff.mp h
              obtain ⟨vs, g1, g2⟩ := ro
              exact .vl fr g1 (rel_many (fun d _ v e => ih d v e) g2 e)
            | spn => exact False.elim ro
            | dct t dks dvs =>
              obtain ⟨es, e, rfl⟩ := Option.map_eq_some_iff.mp h
              cases t with
              | false =>
                obtain ⟨kv, g1, g2, g3⟩ := ro
                exact .vdK fr g1 g2 (rel_many (fun d _ v e => ih d v e) g3 e)
              | true =>
                obtain ⟨kv, g1, g2, g3⟩ := ro
                exact .vdT fr g1 g2 (rel_many (fun d _ v e => ih d v e) g3 e)
theorem trunc_sim {K : PySem.W.Frag} {ι ι' : Pl} {H H' : Hp} {M M' : Ar} {av : Nat} (S : Sim K ι H M) (e : Ext K ι H ι' H') (S' : Sim K ι' H' M') (h2 : okOld M.length M M' = true) :
    Ext K ι H (ι.rel ι' M.length av) H' ∧ Sim K (ι.rel ι' M.length av) H' (M'.take M.length) ∧ ∀ a, a ∉ ι' → a ∉ ι.rel ι' M.length av := by
  have sub : ∀ a, a ∈ ι.rel ι' M.length av → a ∈ ι' := fun a z => by
    rcases z with z | z | ⟨n, _, _, z⟩
    · have z : a ∈ ι.at_ := z
      obtain ⟨n, hn, q⟩ := List.getElem_of_mem z
      exact Pl.get_mem (e.pre n a (by rw [List.getElem?_eq_getElem hn, q]))
    · exact .inr z
    · exact Pl.get_mem z
  have low : Low M.length ι' (ι.rel ι' M.length av) := ⟨fun k a hk q => by
    have hk' : k < ι.at_.length := by rw [S.len]; exact hk
    have := e.pre k _ (List.getElem?_eq_getElem hk')
    rw [q] at this
    show ι.at_[k]? = _
    rw [List.getElem?_eq_getElem hk', Option.some.inj this], fun a f => .inl f⟩
  refine ⟨⟨fun _ _ q => q, e.tup, e.fz, fun a o q n => ⟨(e.out a o q n).1, fun z => (e.out a o q n).2 (sub a z)⟩, e.there, fun a o f q => ⟨.inl (e.keep a o f q).1, (e.keep a o f q).2⟩⟩, ⟨S.nd, ?_, fun n a o q1 q2 => ?_, fun n a q1 z => ?_, fun a z => S'.ne (sub a (.inr z))⟩, fun a h z => h (sub a z)⟩
  · have hl : M.length ≤ M'.length := by
      rw [← S'.len, ← S.len]
      refine Nat.le_of_not_lt fun z => ?_
      have := e.pre ι'.at_.length _ (List.getElem?_eq_getElem z)
      rw [List.getElem?_eq_none (Nat.le_refl _)] at this
      cases this
    show ι.at_.length = _
    rw [List.length_take, S.len]; omega
  · have q1 : ι.at_[n]? = some a := q1
    have hn : n < M.length := by rw [← S.len]; exact (List.getElem?_eq_some_iff.mp q1).1
    rw [List.getElem?_take_of_lt hn] at q2
    obtain ⟨o', g1, g2⟩ := okOld_get h2 (List.getElem?_eq_getElem hn)
    rw [q2] at g1; cases g1
    have ro := S'.ob n a o (e.pre n a q1) q2
    rcases g2 with g2 | g2
    · exact ro.lower low g2
    · refine ro.lower low ?_
      have := (S.ob n a M[n] q1 (List.getElem?_eq_getElem hn)).refs
      rw [g2, ← S.len]; exact this
  · have q1 : ι.at_[n]? = some a := q1
    have hn : n < M.length := by rw [← S.len]; exact (List.getElem?_eq_some_iff.mp q1).1
    have q1' := e.pre n a q1
    rcases z with z | ⟨k, hk, _, z⟩
    · exact S'.dj n a q1' z
    · have := nodup_at S'.nd q1' z
      omega
/-- what nobody reaches is dropped -/
theorem trunc_ok {K : PySem.W.Frag} {ι ι' : Pl} {H H' : Hp} {M M' : Ar} {v : V} {r r' : Rv} (S : Sim K ι H M) (e : Ext K ι H ι' H') (S' : Sim K ι' H' M') (rr : RepR K H ι' H' v r) (h1 : relR M' M.length r = some r') (h2 : okOld M.length M M' = true) :
    ∃ ι2, Ext K ι H ι2 H' ∧ RepR K H ι2 H' v r' ∧ Sim K ι2 H' (M'.take M.length) := by
  have low : ∀ av, Low M.length ι' (ι.rel ι' M.length av) := fun av => ⟨fun k a hk q => by
    have hk' : k < ι.at_.length := by rw [S.len]; exact hk
    have := e.pre k _ (List.getElem?_eq_getElem hk')
    rw [q] at this
    show ι.at_[k]? = _
    rw [List.getElem?_eq_getElem hk', Option.some.inj this], fun a f => .inl f⟩
  have many : ∀ (av : Nat) {vs : List V} {ds es : List D}, Reps K ι' H' vs ds → relL M' M.length av ds = some es → Reps K (ι.rel ι' M.length av) H' vs es := fun av {vs ds es} r h => by
    unfold relL at h
    by_cases hr : D.refsLt_all M.length ds = true
    · rw [if_pos hr] at h; cases h
      exact r.lower (low av) hr
    · rw [if_neg hr] at h
      exact rel_many (fun d _ v x => relD_ok S.len e.pre S' 30 d v x) r h
  -- a released place is nobody's
  have new : ∀ {n : Nat} {a : Addr}, ¬ n < M.length → ι'.at_[n]? = some a → H a = none ∧ a ∉ ι.rel ι' M.length n := fun {n a} hn q => by
    have n1 : a ∉ ι.at_ := fun z => by
      obtain ⟨k, hk, q'⟩ := List.getElem_of_mem z
      have := e.pre k a (by rw [List.getElem?_eq_getElem hk, q'])
      have := nodup_at S'.nd q this
      have := S.len
      omega
    have n2 : ¬ ι'.fz a := S'.dj n a q
    refine ⟨?_, fun z => ?_⟩
    · cases ho : H a with
      | none => rfl
      | some o =>
        refine absurd (Pl.get_mem q) (e.out a o ho fun z => ?_).2
        rcases z with z | z
        · exact n1 z
        · exact n2 (e.keep a o z ho).1
    · rcases z with z | z | ⟨k, _, hk, z⟩
      · exact n1 z
      · exact n2 z
      · exact hk (nodup_at S'.nd z q)
  have dd : ∀ d, (if d.refsLt M.length then some (Rv.d d) else (relD M' M.length M'.length 30 d).map Rv.d) = some r' → r = .d d → ∃ ι2, Ext K ι H ι2 H' ∧ RepR K H ι2 H' v r' ∧ Sim K ι2 H' (M'.take M.length) := fun d h hr => by
    subst hr
    obtain ⟨g1, g2, _⟩ := trunc_sim (av := M'.length) S e S' h2
    by_cases hl : d.refsLt M.length = true
    · rw [if_pos hl] at h; cases h
      exact ⟨_, g1, Rep.lower (low _) hl rr, g2⟩
    · rw [if_neg hl] at h
      obtain ⟨d', q, rfl⟩ := Option.map_eq_some_iff.mp h
      exact ⟨_, g1, relD_ok S.len e.pre S' 30 d v d' rr q, g2⟩
  cases r with
  | l ds =>
    obtain ⟨es, q, rfl⟩ := Option.map_eq_some_iff.mp (show (relL M' M.length M'.length ds).map Rv.l = some r' from h1)
    obtain ⟨a, vs, rfl, g1, g2, g3, g4⟩ := rr
    obtain ⟨k1, k2, k3⟩ := trunc_sim (av := M'.length) S e S' h2
    exact ⟨_, k1, ⟨a, vs, rfl, g1, g2, k3 a g3, many _ g4 q⟩, k2⟩
  | m t ks ws =>
    obtain ⟨es, q, rfl⟩ := Option.map_eq_some_iff.mp (show (relL M' M.length M'.length ws).map (Rv.m t ks) = some r' from h1)
    obtain ⟨a, rfl, g2, g3, g4⟩ := rr
    obtain ⟨k1, k2, k3⟩ := trunc_sim (av := M'.length) S e S' h2
    refine ⟨_, k1, ⟨a, rfl, g2, k3 a g3, ?_⟩, k2⟩
    cases t <;> (obtain ⟨kv, z1, z2, z3⟩ := g4; exact ⟨kv, z1, z2, many _ z3 q⟩)
  | d d =>
    cases d with
    | ref n =>
      have h1 : (if n < M.length then some (Rv.d (.ref n)) else match M'[n]? with
        | some (.lst ds) => (relL M' M.length n ds).map Rv.l
        | some (.dct t ks vs) => (relL M' M.length n vs).map (Rv.m t ks)
        | _ => none) = some r' := h1
      by_cases hn : n < M.length
      · rw [if_pos hn] at h1; cases h1
        refine dd (.ref n) ?_ rfl
        rw [if_pos (by show Nat.blt n M.length = true; rw [Nat.blt_eq]; exact hn)]
      · rw [if_neg hn] at h1
        obtain ⟨k1, k2, k3⟩ := trunc_sim (av := n) S e S' h2
        cases (show Rep K ι' H' v (.ref n) from rr) with
        | @ref a _ q =>
          obtain ⟨n1, n2⟩ := new hn q
          cases hm : M'[n]? with
          | none => rw [hm] at h1; cases h1
          | some o =>
            rw [hm] at h1
            have ro := S'.ob n a o q hm
            cases o with
            | lst ds =>
              obtain ⟨es, q1, rfl⟩ := Option.map_eq_some_iff.mp h1
              obtain ⟨vs, g1, g2⟩ := ro
              exact ⟨_, k1, ⟨a, vs, rfl, g1, n1, n2, many _ g2 q1⟩, k2⟩
            | spn => exact False.elim ro
            | dct t dks dvs =>
              obtain ⟨es, q1, rfl⟩ := Option.map_eq_some_iff.mp h1
              refine ⟨_, k1, ⟨a, rfl, n1, n2, ?_⟩, k2⟩
              cases t <;> (obtain ⟨kv, z1, z2, z3⟩ := ro; exact ⟨kv, z1, z2, many _ z3 q1⟩)
    | non => exact dd (.non) h1 rfl
    | bl b => exact dd (.bl b) h1 rfl
    | int b => exact dd (.int b) h1 rfl
    | str b => exact dd (.str b) h1 rfl
    | tup b => exact dd (.tup b) h1 rfl
    | rl b => exact dd (.rl b) h1 rfl
    | vl b => exact dd (.vl b) h1 rfl
    | vd t ks vs => exact dd (.vd t ks vs) h1 rfl
def sCall (F : List D → Md Rv) (t : Env → Md (List D)) : Env → Md Rv := fun env M => trunc M (bnd (t env) (fun ds => F ds) M)
theorem trunc_go {K : PySem.W.Frag} {σ : L2.St} {ι : Pl} {H : Hp} {Q : VK} {M : Ar} {x : Out Rv} (S : Sim K ι H M) (h : GoX G K W σ ι H (trunc M x) (FinE K ι H Q)) : GoX G K W σ ι H x (FinE K ι H Q) := by
  cases x with
  | exc c p M' => exact h
  | stuck => exact h
  | ok r M' =>
    intro ι' v H' e rr S'
    have h : GoX G K W σ ι H (if M.length < M'.length && okOld M.length M M' then (match relR M' M.length r with
      | some r' => .ok r' (M'.take M.length)
      | none => .ok r M') else .ok r M') (FinE K ι H Q) := h
    by_cases hc : (decide (M.length < M'.length) && okOld M.length M M') = true
    · rw [if_pos hc] at h
      obtain ⟨_, h2⟩ := Bool.and_eq_true_iff.mp hc
      cases hr : relR M' M.length r with
      | none => rw [hr] at h; exact h ι' v H' e rr S'
      | some r' =>
        rw [hr] at h
        obtain ⟨ι2, g1, g2, g3⟩ := trunc_ok S e S' rr hr h2
        exact h ι2 v H' g1 g2 g3
    · rw [if_neg hc] at h
      exact h ι' v H' e rr S'
theorem call_weak {F : List D → Md Rv} {t : Env → Md (List D)} {n : Nat} {σ : L2.St} {H : Hp} {Q : VK} (hn : ∀ ds M, ds.length ≠ n → F ds M = .stuck) (h : liftE G X.K W (sCall F t) σ H Q) :
    tCallS (spD G X.K n F) (WE W) (liftA G X.K W t) σ H Q := by
  obtain ⟨ι, env, M, rs, S, go⟩ := h
  have go := trunc_go S go
  refine ⟨ι, env, M, rs, S, go.bnd.mono fun ds M1 h1 ι1 vs H1 e1 rr S1 => ?_⟩
  have hl : ds.length = n := by
    by_cases hl : ds.length = n
    · exact hl
    · rw [hn ds M1 hl] at h1; exact False.elim h1
  refine ⟨by rw [rr.length]; exact hl, ι1, M1, ds, rr, S1, ?_⟩
  cases e : F ds M1 with
  | ok r M2 => rw [e] at h1; exact fun ι' v H' e2 rr2 S2 => FinE.go h1 e1 e2 rr2 S2
  | exc c p M2 => rw [e] at h1; exact fun ι' cls oe H' e2 S2 q => h1 ι' cls oe H' (e1.trans e2) S2 q
  | stuck => rw [e] at h1; exact False.elim h1
end
end Q
end

section
set_option Elab.async false
set_option linter.all false
set_option maxRecDepth 100000
set_option maxHeartbeats 4000000
/-! Walks, comprehensions. -/
namespace Q
open PySem PySem.Spec PyProof.Rows L2
section
variable {K : PySem.W.Frag} {ι ι' : Pl} {H H' : Hp} {M : Ar}
/-- a list that has no place is written -/
theorem Rep.upd_l {D0 : Addr} {us ws : List V} (h : H D0 = some (.lst us)) (nf : ¬ ι.fz D0) : (∀ {v : V} {d : D}, Rep K ι H v d → Rep K ι (upd H D0 (.lst ws)) v d) ∧ ∀ {vs : List V} {ds : List D}, Reps K ι H vs ds → Reps K ι (upd H D0 (.lst ws)) vs ds := by
  have t : ∀ a xs, SqT K H a xs → SqT K (upd H D0 (.lst ws)) a xs := fun a xs q => by
    rcases q with (q | ⟨o, q⟩) | q
    · exact .inl (.inl (by rw [upd_ne fun e => by subst e; rw [h] at q; cases q]; exact q))
    · exact .inl (.inr ⟨o, by rw [upd_ne fun e => by subst e; rw [h] at q; cases q]; exact q⟩)
    · exact .inr q
  have z : ∀ a xs, FzL K H a xs → FzL K (upd H D0 (.lst ws)) a xs := fun a xs q => by
    rcases q with ⟨o, q⟩ | q
    · exact .inl ⟨o, by rw [upd_ne fun e => by subst e; rw [h] at q; cases q]; exact q⟩
    · exact .inr q
  have both : ∀ n : Nat, (∀ {v : V} {d : D}, sizeOf d < n → Rep K ι H v d → Rep K ι (upd H D0 (.lst ws)) v d) ∧ ∀ {vs : List V} {ds : List D}, sizeOf ds < n → Reps K ι H vs ds → Reps K ι (upd H D0 (.lst ws)) vs ds := by
    intro n
    induction n with
    | zero => exact ⟨fun q => absurd q (Nat.not_lt_zero _), fun q => absurd q (Nat.not_lt_zero _)⟩
    | succ n ih =>
      refine ⟨fun {v d} hs r => ?_, fun {vs ds} hs r => ?_⟩
      · cases r with
        | non => exact .non
        | bl b => exact .bl b
        | int i => exact .int i
        | str x => exact .str x
        | tup q r => exact .tup (t _ _ q) (ih.2 (by simp at hs; omega) r)
        | rl q r => exact .rl (z _ _ q) (ih.2 (by simp at hs; omega) r)
        | vl f q r => exact .vl f (by rw [upd_ne fun e => by subst e; exact nf f]; exact q) (ih.2 (by simp at hs; omega) r)
        | vdK f q k r => exact .vdK f (by rw [upd_ne fun e => by subst e; exact nf f]; exact q) k (ih.2 (by simp at hs; omega) r)
        | vdT f q k r => exact .vdT f (by rw [upd_ne fun e => by subst e; exact nf f]; exact q) k (ih.2 (by simp at hs; omega) r)
        | ref q => exact .ref q
      · cases r with
        | nil => exact .nil
        | cons a b => exact .cons (ih.1 (by simp at hs; omega) a) (ih.2 (by simp at hs; omega) b)
  exact ⟨fun r => (both _).1 (Nat.lt_succ_self _) r, fun r => (both _).2 (Nat.lt_succ_self _) r⟩
theorem Sim.upd_l {D0 : Addr} {us ws : List V} (S : Sim K ι H M) (h : H D0 = some (.lst us)) (n : D0 ∉ ι) : Sim K ι (upd H D0 (.lst ws)) M := by
  refine ⟨S.nd, S.len, fun k a o h1 h2 => ?_, S.dj, fun b f => by
    by_cases e : b = D0
    · subst e; rw [upd_same]; exact fun z => nomatch z
    · rw [upd_ne e]; exact S.fne b f⟩
  have r := S.ob k a o h1 h2
  have ne : a ≠ D0 := fun e => n (by rw [← e]; exact Pl.get_mem h1)
  cases o with
  | lst ds => obtain ⟨vs, q1, q2⟩ := r; exact ⟨vs, by rw [upd_ne ne]; exact q1, (Rep.upd_l h (Pl.nin n).2).2 q2⟩
  | spn => exact r
  | dct t dks dvs => cases t <;> (obtain ⟨vs, q1, k, q2⟩ := r; exact ⟨vs, by rw [upd_ne ne]; exact q1, k, (Rep.upd_l h (Pl.nin n).2).2 q2⟩)
theorem Ext.upd_l {ι₀ : Pl} {H₀ : Hp} {D0 : Addr} {o : HO} (e : Ext K ι₀ H₀ ι H) (h0 : H₀ D0 = none) (h : H D0 ≠ none) : Ext K ι₀ H₀ ι (upd H D0 o) := by
  have ne : ∀ {a u}, H₀ a = some u → a ≠ D0 := fun q z => by subst z; rw [h0] at q; cases q
  refine ⟨e.pre, fun a xs q => ?_, fun a xs q => ?_, fun a u q m => ⟨by rw [upd_ne (ne q)]; exact (e.out a u q m).1, (e.out a u q m).2⟩, fun a q => ?_, fun a u f q => ⟨(e.keep a u f q).1, by rw [upd_ne (ne q)]; exact (e.keep a u f q).2⟩⟩
  · have q' := e.tup a xs q
    rcases q with (q | ⟨o, q⟩) | q
    · exact SqT.at q' (.inl (upd_ne (ne q)))
    · exact SqT.at q' (.inl (upd_ne (ne q)))
    · exact .inr q
  · have q' := e.fz a xs q
    rcases q with ⟨o, q⟩ | q
    · rcases q' with ⟨o', q'⟩ | q'
      · exact .inl ⟨o', by rw [upd_ne (ne q)]; exact q'⟩
      · exact .inr q'
    · exact .inr q
  · by_cases z : a = D0
    · subst z; exact absurd h0 q
    · rw [upd_ne z]; exact e.there a q
theorem RepSt.wipe {σ : L2.St} {env : Env} (r : RepSt K ι H σ env) : ∀ vs : List Nat, RepSt K ι H (L2.wipe σ vs) (Q.wipe env vs)
  | [] => r
  | v :: vs => fun i d h => by
    unfold Q.wipe at h
    unfold L2.wipe
    by_cases e : v = i
    · subst e
      by_cases hl : v < (Q.wipe env vs).length
      · rw [List.getElem?_set_self hl] at h; cases h
      · rw [List.getElem?_eq_none (by simpa using hl)] at h; cases h
    · rw [List.getElem?_set_ne e] at h
      rw [List.getElem?_set_ne e]
      exact RepSt.wipe r vs i d h
theorem RepSt.set {σ : L2.St} {env : Env} {i : Nat} {v : V} {d : D} (r : RepSt K ι H σ env) (h : Rep K ι H v d) (hi : i < σ.length) : RepSt K ι H (σ.set i (some v)) (env.set i (some d)) := fun j d' h' => by
  by_cases e : i = j
  · subst e
    by_cases hl : i < env.length
    · rw [List.getElem?_set_self hl] at h'; cases h'
      exact ⟨v, List.getElem?_set_self hi, h⟩
    · rw [List.getElem?_eq_none (by simpa using hl)] at h'; cases h'
  · rw [List.getElem?_set_ne e] at h'
    rw [List.getElem?_set_ne e]
    exact r j d' h'
end

/-- what an iterator hands out -/
structure Yl (K : PySem.W.Frag) (ι₀ : Pl) (H₀ : Hp) (J : It) (iv : Itv) : Prop where
  go : ∀ i ι H M d, Ext K ι₀ H₀ ι H → Sim K ι H M → itNth M i iv = some d → J.go i H ∧ ∀ x H', J.yld i H x H' → Ext K ι H ι H' ∧ Sim K ι H' M ∧ Rep K ι H' x d
  stop : ∀ i ι H M l, Ext K ι₀ H₀ ι H → Sim K ι H M → itLen M iv = some l → l ≤ i → J.stop i H
def FinI (K : PySem.W.Frag) (ι : Pl) (H : Hp) (R : It → Hp → Prop) : Itv → Ar → Prop := fun iv M' => ∀ ι' H' J, Ext K ι H ι' H' → Sim K ι' H' M' → Yl K ι' H' J iv → R J H'
def liftI (G : GX) (K : PySem.W.Frag) (W : WX) (f : Env → Md Itv) : TI := fun σ H R => ∃ ι env M, RepSt K ι H σ env ∧ Sim K ι H M ∧ GoX G K W σ ι H (f env M) (FinI K ι H R)
abbrev DI (G : GX) (X : Cx) (W : WX) (tg e : Expr) (f : Env → Md Itv) : Prop := PI X tg e (liftI G X.K W f)
theorem yl_list {K : PySem.W.Frag} {ι : Pl} {H : Hp} {a : Addr} {vs : List V} {ds : List D} (h : ∀ ι' H', Ext K ι H ι' H' → SqL K H' a vs) (r : Reps K ι H vs ds) : Yl K ι H (Itl K a) (.st ds) where
  go := fun i ι' H' M d e S q => by
    obtain ⟨v, h1, h2⟩ := (r.ext e).get (show ds[i]? = some d from q)
    exact ⟨⟨vs, v, h ι' H' e, h1⟩, fun x H2 y => by
      obtain ⟨rfl, y⟩ := y
      have := y vs (h ι' _ e)
      rw [h1] at this; cases this
      exact ⟨Ext.refl, S, h2⟩⟩
  stop := fun i ι' H' M l e S q hl => by
    cases q
    exact ⟨vs, h ι' H' e, by rw [r.length]; exact hl⟩
theorem yl_tup {K : PySem.W.Frag} {ι : Pl} {H : Hp} {a : Addr} {vs : List V} {ds : List D} (h : SqT K H a vs) (r : Reps K ι H vs ds) : Yl K ι H (Itt K a) (.st ds) where
  go := fun i ι' H' M d e S q => by
    obtain ⟨v, h1, h2⟩ := (r.ext e).get (show ds[i]? = some d from q)
    exact ⟨⟨vs, v, e.tup _ _ h, h1⟩, fun x H2 y => by
      obtain ⟨rfl, y⟩ := y
      have := y vs (e.tup _ _ h)
      rw [h1] at this; cases this
      exact ⟨Ext.refl, S, h2⟩⟩
  stop := fun i ι' H' M l e S q hl => by
    cases q
    exact ⟨vs, e.tup _ _ h, by rw [r.length]; exact hl⟩
theorem lstAt_some {M : Ar} {n : Nat} {ds : List D} (h : lstAt M n = some ds) : M[n]? = some (.lst ds) := by
  unfold lstAt at h
  cases e : M[n]? with
  | none => rw [e] at h; cases h
  | some o =>
    rw [e] at h
    cases o with
    | lst es => cases h; rfl
    | dct t dks dvs => cases h
    | spn => cases h
theorem yl_one {K : PySem.W.Frag} {ι : Pl} {H : Hp} {a : Addr} {n : Nat} (h : ι.at_[n]? = some a) : Yl K ι H (Itl K a) (.one n) where
  go := fun i ι' H' M d e S q => by
    obtain ⟨ds, q1, q2⟩ := bind_some (show (lstAt M n).bind (·[i]?) = some d from q)
    obtain ⟨b, hb, vs, h1, h2⟩ := S.look (lstAt_some q1)
    rw [e.pre n a h] at hb; cases hb
    obtain ⟨v, g1, g2⟩ := h2.get q2
    exact ⟨⟨vs, v, SqL.of h1, g1⟩, fun x H2 y => by
      obtain ⟨rfl, y⟩ := y
      have := y vs (SqL.of h1)
      rw [g1] at this; cases this
      exact ⟨Ext.refl, S, g2⟩⟩
  stop := fun i ι' H' M l e S q hl => by
    obtain ⟨ds, q1, rfl⟩ := Option.map_eq_some_iff.mp (show (lstAt M n).map (·.length) = some l from q)
    obtain ⟨b, hb, vs, h1, h2⟩ := S.look (lstAt_some q1)
    rw [e.pre n a h] at hb; cases hb
    exact ⟨vs, SqL.of h1, by rw [h2.length]; exact hl⟩
theorem yl_str {K : PySem.W.Frag} {ι : Pl} {H : Hp} {cs : List Nat} : Yl K ι H (Its ⟨cs.toArray⟩) (.st (cs.map fun c => .str [c])) where
  go := fun i ι' H' M d e S q => by
    have q : (cs.map fun c => D.str [c])[i]? = some d := q
    rw [List.getElem?_map] at q
    obtain ⟨c, q1, rfl⟩ := Option.map_eq_some_iff.mp q
    have hi : i < cs.length := (List.getElem?_eq_some_iff.mp q1).1
    exact ⟨by show i < cs.toArray.size; rw [List.size_toArray]; exact hi, fun x H2 y => by
      obtain ⟨rfl, c', hc, rfl⟩ := y
      have : cs.toArray[i]? = some c := by simpa using q1
      rw [show (Str.mk cs.toArray).cps = cs.toArray from rfl, this] at hc; cases hc
      exact ⟨Ext.refl, S, .str [c]⟩⟩
  stop := fun i ι' H' M l e S q hl => by
    have q : some (cs.map fun c => D.str [c]).length = some l := q
    cases q
    show cs.toArray.size ≤ i
    rw [List.size_toArray]; simpa using hl
theorem rangeL_get : ∀ (n : Nat) (lo : Int) (i : Nat), i < n → (rangeL lo n)[i]? = some (.int (lo + i))
  | 0, _, _, h => absurd h (Nat.not_lt_zero _)
  | n + 1, lo, 0, _ => by simp [rangeL]
  | n + 1, lo, i + 1, h => by
    show (rangeL (lo + 1) n)[i]? = _
    rw [rangeL_get n (lo + 1) i (Nat.lt_of_succ_lt_succ h)]
    congr 2
    omega
theorem rangeL_len : ∀ (n : Nat) (lo : Int), (rangeL lo n).length = n
  | 0, _ => rfl
  | n + 1, lo => by
    show (rangeL (lo + 1) n).length + 1 = n + 1
    rw [rangeL_len n (lo + 1)]
theorem yl_range {K : PySem.W.Frag} {ι : Pl} {H : Hp} {lo : Int} {n : Nat} : Yl K ι H (Itr lo n) (.st (rangeL lo n)) where
  go := fun i ι' H' M d e S q => by
    have q : (rangeL lo n)[i]? = some d := q
    have hi : i < n := by
      have := (List.getElem?_eq_some_iff.mp q).1
      rwa [rangeL_len] at this
    rw [rangeL_get n lo i hi] at q; cases q
    exact ⟨hi, fun x H2 y => by
      obtain ⟨rfl, rfl⟩ := y
      exact ⟨Ext.refl, S, .int _⟩⟩
  stop := fun i ι' H' M l e S q hl => by
    have q : some (rangeL lo n).length = some l := q
    cases q
    show n ≤ i
    rwa [rangeL_len] at hl
section
variable {G : GX} {X : Cx} {W : WX} {a b c tg : Expr} {f g k : Env → Md Rv} {pos p : Pos} {rest : List Expr}
/-- a walk over what a term comes to -/
def sSeq (f : Env → Md Rv) : Env → Md Itv := fun env => bnd (f env) fun x => opt (asIt x)
theorem di_seq (ha : DE G X W a f) : DI G X W tg a (sSeq f) := ⟨fun pins s σ H R I ⟨ι, env, M, rs, S, go⟩ => by
  have go := GoX.bnd go
  cases e : f env M with
  | stuck => rw [e] at go; exact False.elim go
  | exc c p M1 =>
    rw [e] at go
    exact (pi_list (tg := tg) ha).run pins s σ H R I ⟨ι, env, M, rs, S, by rw [e]; exact go⟩
  | ok r M1 =>
    rw [e] at go
    obtain ⟨iv, e2, q⟩ := GoX.opt go
    have back : ∀ {Q' : VK}, FinE X.K ι H Q' r M1 → liftE G X.K W f σ H Q' := fun h => ⟨ι, env, M, rs, S, by rw [e]; exact h⟩
    unfold asIt at e2
    cases r with
    | m _ _ _ => cases e2
    | l ds =>
      cases e2
      refine (pi_list (tg := tg) ha).run pins s σ H R I (back fun ι1 v1 H1 e1 rr1 S1 => ?_)
      obtain ⟨x, vs, rfl, h1, h2, h3, h4⟩ := rr1
      exact ⟨x, rfl, ⟨vs, SqL.of h1⟩, q ι1 H1 _ e1 S1 (yl_list (fun ι' H' e' => SqL.of (e'.out x _ h1 h3).1) h4)⟩
    | d d =>
      cases d with
      | rl ds =>
        cases e2
        refine (pi_list (tg := tg) ha).run pins s σ H R I (back fun ι1 v1 H1 e1 rr1 S1 => ?_)
        cases (show Rep X.K ι1 H1 v1 (.rl ds) from rr1) with
        | rl h1 h2 => exact ⟨_, rfl, ⟨_, h1.sq⟩, q ι1 H1 _ e1 S1 (yl_list (fun ι' H' e' => (e'.fz _ _ h1).sq) h2)⟩
      | vl ds =>
        cases e2
        refine (pi_list (tg := tg) ha).run pins s σ H R I (back fun ι1 v1 H1 e1 rr1 S1 => ?_)
        cases (show Rep X.K ι1 H1 v1 (.vl ds) from rr1) with
        | vl f h1 h2 => exact ⟨_, rfl, ⟨_, SqL.of h1⟩, q ι1 H1 _ e1 S1 (yl_list (fun ι' H' e' => SqL.of (e'.keep _ _ f h1).2) h2)⟩
      | tup ds =>
        cases e2
        refine (pi_tup (tg := tg) ha).run pins s σ H R I (back fun ι1 v1 H1 e1 rr1 S1 => ?_)
        cases (show Rep X.K ι1 H1 v1 (.tup ds) from rr1) with
        | tup h1 h2 => exact ⟨_, rfl, ⟨_, h1⟩, q ι1 H1 _ e1 S1 (yl_tup h1 h2)⟩
      | str cs =>
        have e2 : (if cs.length ≤ line then some (Itv.st (cs.map fun c => .str [c])) else none) = some iv := e2
        by_cases hl : cs.length ≤ line
        · rw [if_pos hl] at e2; cases e2
          refine (pi_str (tg := tg) ha).run pins s σ H R I (back fun ι1 v1 H1 e1 rr1 S1 => ?_)
          exact ⟨_, Rep.str_of rr1, q ι1 H1 _ e1 S1 yl_str⟩
        · rw [if_neg hl] at e2; cases e2
      | ref n =>
        cases el : lstAt M1 n with
        | none =>
          have e2 : (match lstAt M1 n with | some _ => some (Itv.one n) | none => none) = some iv := e2
          rw [el] at e2; cases e2
        | some es0 =>
        have e2 : (match lstAt M1 n with | some _ => some (Itv.one n) | none => none) = some iv := e2
        rw [el] at e2
        cases e2
        refine (pi_list (tg := tg) ha).run pins s σ H R I (back fun ι1 v1 H1 e1 rr1 S1 => ?_)
        cases (show Rep X.K ι1 H1 v1 (.ref n) from rr1) with
        | ref h1 =>
          have ro := S1.ob n _ _ h1 (lstAt_some el)
          generalize hoo : Ob.lst es0 = o at ro
          cases o with
          | dct t dks dvs => cases hoo
          | spn => cases hoo
          | lst es => obtain ⟨vs, g1, _⟩ := ro; exact ⟨_, rfl, ⟨vs, SqL.of g1⟩, q ι1 H1 _ e1 S1 (yl_one h1)⟩
      | _ => cases e2⟩
def sRng (t : Env → Md (List Rv)) : Env → Md Itv := fun env => bnd (t env) fun xs => opt (rangeIt xs)
theorem small62_of {i : Int} (h : small62 i = true) : -(2 ^ 62) ≤ i ∧ i < 2 ^ 62 := by
  obtain ⟨h1, h2⟩ := Bool.and_eq_true_iff.mp h
  exact ⟨of_decide_eq_true h1, of_decide_eq_true h2⟩
theorem di_rng1 {t : Env → Md (List Rv)} (hg : Gl X "range") (hm : X.mg "range" = none) (ha : DR G X W [a] t) (hs : starEach [a] X.env = [(false, eval a X.env)]) (h1 : ∀ env M xs M', t env M = .ok xs M' → xs.length = 1) :
    DI G X W tg (.Call (.Name "range" p) [a] [] pos) (sRng t) := ⟨fun pins s σ H R I ⟨ι, env, M, rs, S, go⟩ => by
  refine (pi_range1 (tg := tg) hg hm ha hs).run pins s σ H R I ⟨ι, env, M, rs, S, ?_⟩
  have go := GoX.bnd go
  cases e : t env M with
  | stuck => rw [e] at go; exact False.elim go
  | exc c p M1 => rw [e] at go; exact go
  | ok xs M1 =>
    rw [e] at go
    obtain ⟨iv, e2, q⟩ := GoX.opt go
    have hl := h1 env M xs M1 e
    match xs, hl, e2 with
    | [.d (.int j)], _, e2 =>
      intro ι1 vs H1 e1 rr S1
      have e2 : (if small62 j = true then some (Itv.st (rangeL 0 j.toNat)) else none) = some iv := e2
      by_cases hj : small62 j = true
      · rw [if_pos hj] at e2; cases e2
        obtain ⟨v, H₁, rfl, hx⟩ := rr.one
        obtain ⟨l1, l2⟩ := small62_of hj
        exact ⟨j, by rw [Rep.int_of hx], l1, l2, q ι1 H1 _ e1 S1 yl_range⟩
      · rw [if_neg hj] at e2; cases e2⟩
theorem di_rng2 {t : Env → Md (List Rv)} (hg : Gl X "range") (hm : X.mg "range" = none) (ha : DR G X W [a, b] t) (hs : starEach [a, b] X.env = [(false, eval a X.env), (false, eval b X.env)]) (hs2 : starEach [b] X.env = [(false, eval b X.env)]) (h1 : ∀ env M xs M', t env M = .ok xs M' → xs.length = 2) :
    DI G X W tg (.Call (.Name "range" p) [a, b] [] pos) (sRng t) := ⟨fun pins s σ H R I ⟨ι, env, M, rs, S, go⟩ => by
  refine (pi_range2 (tg := tg) hg hm ha hs hs2).run pins s σ H R I ⟨ι, env, M, rs, S, ?_⟩
  have go := GoX.bnd go
  cases e : t env M with
  | stuck => rw [e] at go; exact False.elim go
  | exc c p M1 => rw [e] at go; exact go
  | ok xs M1 =>
    rw [e] at go
    obtain ⟨iv, e2, q⟩ := GoX.opt go
    have hl := h1 env M xs M1 e
    match xs, hl, e2 with
    | [.d (.int i), .d (.int j)], _, e2 =>
      intro ι1 vs H1 e1 rr S1
      have e2 : (if (small62 i && small62 j) = true then some (Itv.st (rangeL i (j - i).toNat)) else none) = some iv := e2
      by_cases hj : (small62 i && small62 j) = true
      · rw [if_pos hj] at e2; cases e2
        obtain ⟨v, w, H₁, H₂, rfl, hx, hy⟩ := rr.two
        obtain ⟨z1, z2⟩ := Bool.and_eq_true_iff.mp hj
        obtain ⟨l1, l2⟩ := small62_of z1
        obtain ⟨l3, l4⟩ := small62_of z2
        exact ⟨i, j, by rw [Rep.int_of hx, Rep.int_of hy], ⟨l1, l2, l3, l4⟩, q ι1 H1 _ e1 S1 yl_range⟩
      · rw [if_neg hj] at e2; cases e2⟩
end
end Q
end

section
set_option Elab.async false
set_option linter.all false
set_option maxRecDepth 100000
set_option maxHeartbeats 4000000
/-! zip of any two of lists and tuples: each side says by a Bool whether it is a tuple. -/
namespace QZ
open PySem PySem.Spec PyProof.Rows L2
/-- the kind's name, its iterator's name -/
def nmI : Bool → String
  | true => "tuple_iterator"
  | false => "list_iterator"
def Held : Bool → Heap → Addr → Array Value → Prop
  | true, g, l, us => g.IsTuple l us
  | false, g, l, us => g.IsList l us
def Hand : Bool → Heap → Addr → Addr → Nat → Prop
  | true, g, q, l, n => g.IsTupleIter q l n
  | false, g, q, l, n => g.IsListIter q l n
section
variable {t t₁ t₂ : Bool} {g g' : Heap} {l q c : Addr} {n : Nat} {us : Array Value}
theorem Held.out (h : Held t g l us) (k : Heap.ExtBut c g g') (d : l ≠ c) : Held t g' l us := by
  cases t with
  | true => exact Heap.IsTuple.extBut h k d
  | false => exact Heap.IsList.extBut h k d
theorem Held.psh (h : Held t g l us) (o : Obj) : Held t (g.push o) l us := by
  cases t with
  | true => exact Heap.IsTuple.push h o
  | false => exact Heap.IsList.push h o
theorem Hand.out (h : Hand t g q l n) (k : Heap.ExtBut c g g') (d : q ≠ c) : Hand t g' q l n := by
  cases t with
  | true => exact Heap.IsTupleIter.extBut h k d
  | false => exact Heap.IsListIter.extBut h k d
theorem Hand.stay (h : Hand t g q l n) (k : ∀ o, g.get? q = some o → g'.get? q = some o) : Hand t g' q l n := by
  cases t with
  | true => exact Heap.IsTupleIter.at h k
  | false => exact Heap.IsListIter.at h k
theorem Hand.lt (h : Hand t g q l n) : q < g.objs.size := by
  cases t with
  | true => obtain ⟨_, e, _⟩ := (show g.IsTupleIter q l n from h); exact Heap.lt_size e
  | false => obtain ⟨_, e, _⟩ := (show g.IsListIter q l n from h); exact Heap.lt_size e
theorem Hand.data (h : Hand t g q l n) : ∃ o, g.get? q = some o ∧ ∀ v, o.data ≠ .cell v := by
  cases t with
  | true => obtain ⟨o, e, _, d⟩ := (show g.IsTupleIter q l n from h); exact ⟨o, e, fun v z => by rw [d] at z; cases z⟩
  | false => obtain ⟨o, e, _, d⟩ := (show g.IsListIter q l n from h); exact ⟨o, e, fun v z => by rw [d] at z; cases z⟩
end
section
variable {P : Program} {w : World} {B : Around} {Er : Value → Shared → Prop} {s : Shared} {t t₁ t₂ : Bool}
theorem nxt_item {q l : Addr} {n : Nat} {us : Array Value} {u : Value} {Z : Value → Shared → Prop} (a : Hand t s.heap q l n) (b : Held t s.heap l us) (hu : us[n]? = some u)
    (z : ∀ g, Hand t g q l (n + 1) → Heap.SameBut q s.heap g → Z u { s with heap := g }) : wpAny (model P w) B (Builtin.SmallTypes.nextOf (.ref q)) Z Er s := by
  cases t with
  | true => exact RZ.nextOf_tuple_item a b hu z
  | false => exact wpAny_nextOf_list_item a b hu z
theorem nxt_end {q l : Addr} {n : Nat} {us : Array Value} {Z : Value → Shared → Prop} (hd : B.handled = none) (a : Hand t s.heap q l n) (b : Held t s.heap l us) (hu : us[n]? = none)
    (z : ∀ g e, Heap.ExtBut q s.heap g → (∃ o, g.get? e = some o ∧ o.cls = .type "StopIteration") → Er (.ref e) { s with heap := g }) : wpAny (model P w) B (Builtin.SmallTypes.nextOf (.ref q)) Z Er s := by
  cases t with
  | true => exact RZ.nextOf_tuple_end hd a b hu z
  | false => exact wpAny_nextOf_list_end hd a b hu z
variable {zz TI TO q1 q2 l1 l2 : Addr} {n1 n2 : Nat} {us vs : Array Value} {x0 y0 : Value}
/-- what a turn leaves as it was -/
abbrev Rest (zz TO q1 q2 : Addr) (g g' : Heap) : Prop := ∀ c o, c ≠ zz → c ≠ TO → c ≠ q1 → c ≠ q2 → g.get? c = some o → g'.get? c = some o
theorem turn_item {u v : Value} {Z : Value → Shared → Prop} (D : ZipApart zz TI TO q1 q2 l1 l2) (hz : IsZip s.heap zz TI TO .none) (pI : IsPair s.heap TI (.ref q1) (.ref q2)) (pO : IsPair s.heap TO x0 y0)
    (a1 : Hand t₁ s.heap q1 l1 n1) (a2 : Hand t₂ s.heap q2 l2 n2) (b1 : Held t₁ s.heap l1 us) (b2 : Held t₂ s.heap l2 vs) (hu : us[n1]? = some u) (hv : vs[n2]? = some v)
    (fin : ∀ g, IsZip g zz TI TO (rawInt s.heap.objs.size) → IsPair g TO u v → Hand t₁ g q1 l1 (n1 + 1) → Hand t₂ g q2 l2 (n2 + 1) → IsPair g s.heap.objs.size u v → g.objs.size = s.heap.objs.size + 1 → Rest zz TO q1 q2 s.heap g → Z (.ref s.heap.objs.size) { s with heap := g }) :
    wpAny (model P w) B (Builtin.«zip.__next__» ⟨[.ref zz], []⟩) (fun f s' => ∃ r, f = .done (.ret r) ∧ Z r s') Er s := by
  show wpAny _ B (field (.ref zz) 2 >>= _) _ _ s
  refine (wpAny_bind (wpAny_field hz rfl (x := .bool false) rfl ?_))
  show wpAny _ B (field (.ref zz) 3 >>= _) _ _ s
  refine (wpAny_bind (wpAny_field hz rfl (x := .ref TI) rfl ?_))
  refine (wpAny_bind (wpAny_seqItems pI rfl ?_))
  show wpAny _ B (Builtin.SmallTypes.ownedTupleIsFree (.ref zz) >>= _) _ _ s
  refine wpAny_bind ?_
  unfold Builtin.SmallTypes.ownedTupleIsFree
  refine (wpAny_bind (wpAny_field hz rfl (x := .none) rfl (wpAny_pure ?_)))
  simp only [if_true]
  refine (wpAny_bind (wpAny_rule ?_))
  refine (wpAny_bind (wpAny_field hz rfl (x := .ref TO) rfl ?_))
  refine (wpAny_bind (wpAny_setField_rec hz (by simp) fun g1 z1 k1 => ?_))
  replace z1 : IsZip g1 zz TI TO .ellipsis := z1
  refine wpAny_bind ?_
  simp only [List.zipIdx_nil, List.zipIdx_cons, List.forIn_nil, List.forIn_cons]
  refine (wpAny_bind (wpAny_bind (wpAny_onRaise ?_)))
  show wpAny _ _ (Builtin.SmallTypes.nextOf (.ref q1) >>= _) _ _ { s with heap := g1 }
  refine (wpAny_bind (nxt_item (a1.out k1.extBut D.i1z) (b1.out k1.extBut D.l1z) hu fun g2 c1 k2 => wpAny_pure ?_))
  have o2 : IsPair g2 TO x0 y0 := k2.extBut _ _ D.TOi1 (k1.extBut _ _ D.TOz pO)
  refine (wpAny_bind (wpAny_seqItems o2 rfl ?_))
  refine (wpAny_bind (wpAny_updateSeq_pair o2 fun g3 o3 k3 => ?_))
  replace o3 : IsPair g3 TO u y0 := o3
  refine (wpAny_bind (wpAny_letGo (wpAny_pure ?_)))
  refine (wpAny_bind (wpAny_bind (wpAny_onRaise ?_)))
  show wpAny _ _ (Builtin.SmallTypes.nextOf (.ref q2) >>= _) _ _ { s with heap := g3 }
  have a2' : Hand t₂ g3 q2 l2 n2 := ((a2.out k1.extBut D.i2z).out k2.extBut D.i12.symm).out k3.extBut D.TOi2.symm
  have b2' : Held t₂ g3 l2 vs := ((b2.out k1.extBut D.l2z).out k2.extBut D.l2i1).out k3.extBut D.l2TO
  refine (wpAny_bind (nxt_item a2' b2' hv fun g4 c2 k4 => wpAny_pure ?_))
  have o4 : IsPair g4 TO u y0 := k4.extBut _ _ D.TOi2 o3
  refine (wpAny_bind (wpAny_seqItems o4 rfl ?_))
  refine (wpAny_bind (wpAny_updateSeq_pair o4 fun g5 o5 k5 => ?_))
  replace o5 : IsPair g5 TO u v := o5
  refine (wpAny_bind (wpAny_letGo (wpAny_pure (wpAny_pure ?_))))
  refine (wpAny_bind (wpAny_seqItems o5 rfl ?_))
  refine (wpAny_bind (wpAny_newTuple ?_))
  have sz : g5.objs.size = s.heap.objs.size := by rw [k5.1, k4.1, k3.1, k2.1, k1.1]
  have z5 : IsZip g5 zz TI TO .ellipsis := k5.extBut _ _ D.TOz.symm (k4.extBut _ _ D.i2z.symm (k3.extBut _ _ D.TOz.symm (k2.extBut _ _ D.i1z.symm z1)))
  have r5 : Rest zz TO q1 q2 s.heap g5 := fun c o d1 d2 d3 d4 e => k5.extBut _ _ d2 (k4.extBut _ _ d4 (k3.extBut _ _ d2 (k2.extBut _ _ d3 (k1.extBut _ _ d1 e))))
  have c1' : Hand t₁ g5 q1 l1 (n1 + 1) := ((c1.out k3.extBut D.TOi1.symm).out k4.extBut D.i12).out k5.extBut D.TOi1.symm
  have c2' : Hand t₂ g5 q2 l2 (n2 + 1) := c2.out k5.extBut D.TOi2.symm
  have zlt : zz < g5.objs.size := Heap.lt_size z5
  show wpAny _ _ (Builtin.SmallTypes.ownedTupleHandOut (.ref zz) (.ref g5.objs.size) >>= _) _ _ _
  refine wpAny_bind ?_
  unfold Builtin.SmallTypes.ownedTupleHandOut
  have z6 : IsZip (g5.push { cls := .type "tuple", data := .seq #[u, v] }) zz TI TO .ellipsis := Heap.get?_push_of_some _ z5
  refine (wpAny_bind (wpAny_setField_rec z6 (by simp) fun g7 z7 k7 => ?_))
  replace z7 : IsZip g7 zz TI TO (rawInt g5.objs.size) := z7
  refine (wpAny_setField_rec z7 (by simp) fun g8 z8 k8 => ?_)
  replace z8 : IsZip g8 zz TI TO (rawInt g5.objs.size) := z8
  have lift : ∀ c o, c ≠ zz → g5.get? c = some o → g8.get? c = some o := fun c o d e => k8.extBut _ _ d (k7.extBut _ _ d (Heap.get?_push_of_some _ e))
  have p8 : IsPair g8 g5.objs.size u v := k8.extBut _ _ (Nat.ne_of_gt zlt) (k7.extBut _ _ (Nat.ne_of_gt zlt) (Heap.get?_push_size _ rfl))
  have s8 : g8.objs.size = g5.objs.size + 1 := by rw [k8.1, k7.1, Heap.size_push]
  rw [sz] at z8 p8 s8
  refine wpAny_pure ⟨.ref g5.objs.size, rfl, ?_⟩
  rw [sz]
  exact fin g8 z8 (lift _ _ D.TOz o5) (c1'.stay fun o e => lift _ o D.i1z e) (c2'.stay fun o e => lift _ o D.i2z e) p8 s8 fun c o d1 d2 d3 d4 e => lift c o d1 (r5 c o d1 d2 d3 d4 e)
theorem turn_end {Z : Fin → Shared → Prop} (hd : B.handled = none) (D : ZipApart zz TI TO q1 q2 l1 l2) (hz : IsZip s.heap zz TI TO .none) (pI : IsPair s.heap TI (.ref q1) (.ref q2)) (pO : IsPair s.heap TO x0 y0)
    (a1 : Hand t₁ s.heap q1 l1 n1) (a2 : Hand t₂ s.heap q2 l2 n2) (b1 : Held t₁ s.heap l1 us) (b2 : Held t₂ s.heap l2 vs) (out : us[n1]? = none ∨ vs[n2]? = none)
    (fin : ∀ g e, Rest zz TO q1 q2 s.heap g → (∃ o, g.get? e = some o ∧ o.cls = .type "StopIteration") → Er (.ref e) { s with heap := g }) :
    wpAny (model P w) B (Builtin.«zip.__next__» ⟨[.ref zz], []⟩) Z Er s := by
  show wpAny _ B (field (.ref zz) 2 >>= _) _ _ s
  refine (wpAny_bind (wpAny_field hz rfl (x := .bool false) rfl ?_))
  show wpAny _ B (field (.ref zz) 3 >>= _) _ _ s
  refine (wpAny_bind (wpAny_field hz rfl (x := .ref TI) rfl ?_))
  refine (wpAny_bind (wpAny_seqItems pI rfl ?_))
  show wpAny _ B (Builtin.SmallTypes.ownedTupleIsFree (.ref zz) >>= _) _ _ s
  refine wpAny_bind ?_
  unfold Builtin.SmallTypes.ownedTupleIsFree
  refine (wpAny_bind (wpAny_field hz rfl (x := .none) rfl (wpAny_pure ?_)))
  simp only [if_true]
  refine (wpAny_bind (wpAny_rule ?_))
  refine (wpAny_bind (wpAny_field hz rfl (x := .ref TO) rfl ?_))
  refine (wpAny_bind (wpAny_setField_rec hz (by simp) fun g1 z1 k1 => ?_))
  replace z1 : IsZip g1 zz TI TO .ellipsis := z1
  refine wpAny_bind ?_
  simp only [List.zipIdx_nil, List.zipIdx_cons, List.forIn_nil, List.forIn_cons]
  refine (wpAny_bind (wpAny_bind (wpAny_onRaise ?_)))
  show wpAny _ _ (Builtin.SmallTypes.nextOf (.ref q1) >>= _) _ _ { s with heap := g1 }
  cases hu : us[n1]? with
  | none =>
    refine (wpAny_bind (nxt_end hd (a1.out k1.extBut D.i1z) (b1.out k1.extBut D.l1z) hu fun g2 e k2 st => ?_))
    obtain ⟨oe, ge, ce⟩ := st
    have z2 : IsZip g2 zz TI TO .ellipsis := k2 _ _ D.i1z.symm z1
    have ne : e ≠ zz := fun y => by subst y; rw [z2] at ge; cases ge; simp at ce
    refine (wpAny_setField_rec z2 (by simp) fun g3 _ k3 => fin g3 e (fun c o d1 _ d3 _ y => k3.extBut _ _ d1 (k2 _ _ d3 (k1.extBut _ _ d1 y))) ⟨oe, k3.extBut _ _ ne ge, ce⟩)
  | some u =>
    have hv : vs[n2]? = none := by
      rcases out with y | y
      · rw [hu] at y; cases y
      · exact y
    refine (wpAny_bind (nxt_item (a1.out k1.extBut D.i1z) (b1.out k1.extBut D.l1z) hu fun g2 c1 k2 => wpAny_pure ?_))
    have o2 : IsPair g2 TO x0 y0 := k2.extBut _ _ D.TOi1 (k1.extBut _ _ D.TOz pO)
    refine (wpAny_bind (wpAny_seqItems o2 rfl ?_))
    refine (wpAny_bind (wpAny_updateSeq_pair o2 fun g3 o3 k3 => ?_))
    refine (wpAny_bind (wpAny_letGo (wpAny_pure ?_)))
    refine (wpAny_bind (wpAny_bind (wpAny_onRaise ?_)))
    show wpAny _ _ (Builtin.SmallTypes.nextOf (.ref q2) >>= _) _ _ { s with heap := g3 }
    have a2' : Hand t₂ g3 q2 l2 n2 := ((a2.out k1.extBut D.i2z).out k2.extBut D.i12.symm).out k3.extBut D.TOi2.symm
    have b2' : Held t₂ g3 l2 vs := ((b2.out k1.extBut D.l2z).out k2.extBut D.l2i1).out k3.extBut D.l2TO
    refine (wpAny_bind (nxt_end hd a2' b2' hv fun g4 e k4 st => ?_))
    obtain ⟨oe, ge, ce⟩ := st
    have z4 : IsZip g4 zz TI TO .ellipsis := k4 _ _ D.i2z.symm (k3.extBut _ _ D.TOz.symm (k2.extBut _ _ D.i1z.symm z1))
    have ne : e ≠ zz := fun y => by subst y; rw [z4] at ge; cases ge; simp at ce
    refine (wpAny_setField_rec z4 (by simp) fun g5 _ k5 => fin g5 e (fun c o d1 d2 d3 d4 y => k5.extBut _ _ d1 (k4 _ _ d4 (k3.extBut _ _ d2 (k2.extBut _ _ d3 (k1.extBut _ _ d1 y))))) ⟨oe, k5.extBut _ _ ne ge, ce⟩)
theorem py_item {u v : Value} {Z : Option Value → Shared → Prop} (D : ZipApart zz TI TO q1 q2 l1 l2) (hz : IsZip s.heap zz TI TO .none) (pI : IsPair s.heap TI (.ref q1) (.ref q2)) (pO : IsPair s.heap TO x0 y0)
    (a1 : Hand t₁ s.heap q1 l1 n1) (a2 : Hand t₂ s.heap q2 l2 n2) (b1 : Held t₁ s.heap l1 us) (b2 : Held t₂ s.heap l2 vs) (hu : us[n1]? = some u) (hv : vs[n2]? = some v)
    (fin : ∀ g, IsZip g zz TI TO (rawInt s.heap.objs.size) → IsPair g TO u v → Hand t₁ g q1 l1 (n1 + 1) → Hand t₂ g q2 l2 (n2 + 1) → IsPair g s.heap.objs.size u v → g.objs.size = s.heap.objs.size + 1 → Rest zz TO q1 q2 s.heap g → Z (some (.ref s.heap.objs.size)) { s with heap := g }) :
    wpAny (model P w) B (pyNext (.ref zz)) Z Er s := by
  have ty : s.TypeIs (.ref zz) "zip" := ⟨_, hz, rfl⟩
  unfold pyNext
  refine (wpAny_bind (wpAny_attempt (wpAny_callSpecial?_slot (name := Str.ofString "__next__") ty F.slot_zip_next ?_)))
  exact wpAny_call_entry F.slot_zip_next ty F.entry_zip_next (turn_item D hz pI pO a1 a2 b1 b2 hu hv fun g e1 e2 e3 e4 e5 e6 e7 => wpAny_pure (fin g e1 e2 e3 e4 e5 e6 e7)) (F.args_zip_next_1 _)
theorem py_end {Z : Option Value → Shared → Prop} (hd : B.handled = none) (D : ZipApart zz TI TO q1 q2 l1 l2) (hz : IsZip s.heap zz TI TO .none) (pI : IsPair s.heap TI (.ref q1) (.ref q2)) (pO : IsPair s.heap TO x0 y0)
    (a1 : Hand t₁ s.heap q1 l1 n1) (a2 : Hand t₂ s.heap q2 l2 n2) (b1 : Held t₁ s.heap l1 us) (b2 : Held t₂ s.heap l2 vs) (out : us[n1]? = none ∨ vs[n2]? = none)
    (fin : ∀ g, Rest zz TO q1 q2 s.heap g → Z none { s with heap := g }) : wpAny (model P w) B (pyNext (.ref zz)) Z Er s := by
  have ty : s.TypeIs (.ref zz) "zip" := ⟨_, hz, rfl⟩
  unfold pyNext
  refine (wpAny_bind (wpAny_attempt (wpAny_callSpecial?_slot (name := Str.ofString "__next__") ty F.slot_zip_next ?_)))
  refine (wpAny_call_entry F.slot_zip_next ty F.entry_zip_next (turn_end hd D hz pI pO a1 a2 b1 b2 out fun g e k st => ?_) (F.args_zip_next_1 _))
  obtain ⟨o, go, co⟩ := st
  refine (wpAny_bind (wpAny_isInstance (T := "StopIteration") (b := true) ⟨o, go, co⟩ isSubtype_stop ?_))
  exact wpAny_pure (fin _ k)
end
/-! the heap behind zip(a, b) -/
def hI (t : Bool) (l : Addr) : Obj := { cls := .type (nmI t), data := .fields #[.ref l, .int 0 0] }
abbrev hp1 (t₁ : Bool) (g : Heap) (l1 : Addr) : Heap := g.push (hI t₁ l1)
abbrev hp2 (t₁ t₂ : Bool) (g : Heap) (l1 l2 : Addr) : Heap := (hp1 t₁ g l1).push (hI t₂ l2)
abbrev hp3 (t₁ t₂ : Bool) (g : Heap) (l1 l2 : Addr) : Heap := (hp2 t₁ t₂ g l1 l2).push { cls := .type "tuple", data := .seq #[.ref g.objs.size, .ref (hp1 t₁ g l1).objs.size] }
abbrev hp4 (t₁ t₂ : Bool) (g : Heap) (l1 l2 : Addr) : Heap := (hp3 t₁ t₂ g l1 l2).push { cls := .type "tuple", data := .seq #[.none, .none] }
abbrev hp5 (t₁ t₂ : Bool) (g : Heap) (l1 l2 : Addr) : Heap := (hp4 t₁ t₂ g l1 l2).push { cls := .type "zip", data := .fields #[.none, .bool false, .bool false, .ref (hp2 t₁ t₂ g l1 l2).objs.size, .ref (hp3 t₁ t₂ g l1 l2).objs.size] }
theorem made_TL (l1 l2 : Addr) (us vs : Array Value) : Meets (Builtin.«zip.__new__» ⟨[.type "zip", .ref l1, .ref l2], []⟩) (fun _ Rr s => Held true s.heap l1 us ∧ Held false s.heap l2 vs ∧ Rr (.ok (.ret (.ref (hp4 true false s.heap l1 l2).objs.size))) { s with heap := hp5 true false s.heap l1 l2 }) :=
  .of_wp fun P w B Rr s h => by
    obtain ⟨g, gn, dr, tk, os⟩ := s
    obtain ⟨b1, b2, h⟩ := h
    have sz := sub_zip
    have L1 : Heap.IsTuple (Shared.heap ⟨g, gn, dr, tk, os⟩) l1 us := b1
    have L2 : Heap.IsList (Shared.heap ⟨g.push { cls := .type "tuple_iterator", data := .fields #[Value.ref l1, Value.int 0 0] }, gn, dr, tk, os⟩) l2 vs := Heap.IsList.push b2 _
    wp_walk using wpAny_pyIter_tuple L1, wpAny_pyIter_list L2
    exact ⟨_, rfl, h⟩
theorem made_LT (l1 l2 : Addr) (us vs : Array Value) : Meets (Builtin.«zip.__new__» ⟨[.type "zip", .ref l1, .ref l2], []⟩) (fun _ Rr s => Held false s.heap l1 us ∧ Held true s.heap l2 vs ∧ Rr (.ok (.ret (.ref (hp4 false true s.heap l1 l2).objs.size))) { s with heap := hp5 false true s.heap l1 l2 }) :=
  .of_wp fun P w B Rr s h => by
    obtain ⟨g, gn, dr, tk, os⟩ := s
    obtain ⟨b1, b2, h⟩ := h
    have sz := sub_zip
    have L1 : Heap.IsList (Shared.heap ⟨g, gn, dr, tk, os⟩) l1 us := b1
    have L2 : Heap.IsTuple (Shared.heap ⟨g.push { cls := .type "list_iterator", data := .fields #[Value.ref l1, Value.int 0 0] }, gn, dr, tk, os⟩) l2 vs := Heap.IsTuple.push b2 _
    wp_walk using wpAny_pyIter_list L1, wpAny_pyIter_tuple L2
    exact ⟨_, rfl, h⟩
end QZ
end

section
set_option Elab.async false
set_option linter.all false
set_option maxRecDepth 100000
set_option maxHeartbeats 4000000
namespace QZ
open PySem PySem.Spec PyProof.Rows L2
section
variable {P : Program} {w : World} {B : Around} {Er : Value → Shared → Prop} {s : Shared} {t₁ t₂ : Bool} {l1 l2 : Addr} {us vs : Array Value}
theorem hand_new (t : Bool) {g : Heap} {q l : Addr} (e : g.get? q = some (hI t l)) : Hand t g q l 0 := by
  cases t with
  | true => exact ⟨_, e, rfl, rfl⟩
  | false => exact ⟨_, e, rfl, rfl⟩
theorem zip_made {Z : Value → Shared → Prop}
    (mk : Meets (Builtin.«zip.__new__» ⟨[.type "zip", .ref l1, .ref l2], []⟩) (fun _ Rr s => Held t₁ s.heap l1 us ∧ Held t₂ s.heap l2 vs ∧ Rr (.ok (.ret (.ref (hp4 t₁ t₂ s.heap l1 l2).objs.size))) { s with heap := hp5 t₁ t₂ s.heap l1 l2 }))
    (b1 : Held t₁ s.heap l1 us) (b2 : Held t₂ s.heap l2 vs)
    (fin : ∀ g, IsZip g (s.heap.objs.size + 4) (s.heap.objs.size + 2) (s.heap.objs.size + 3) .none → IsPair g (s.heap.objs.size + 2) (.ref s.heap.objs.size) (.ref (s.heap.objs.size + 1)) → IsPair g (s.heap.objs.size + 3) .none .none →
      Hand t₁ g s.heap.objs.size l1 0 → Hand t₂ g (s.heap.objs.size + 1) l2 0 → (∀ c o, s.heap.get? c = some o → g.get? c = some o) → Z (.ref (s.heap.objs.size + 4)) { s with heap := g }) :
    wpAny (model P w) B (call (.type "zip") [.ref l1, .ref l2]) Z Er s := by
  refine callType_new PySem.F.called_zip (by decide) (PySem.F.typeCall_zip_2 _ _) (PySem.F.newCall_zip_2 _ _) (fun ob => PySem.F.args_object_init_3 ob _ _) PySem.F.entry_zip_new mk ⟨b1, b2, ?_⟩
  have y1 : (hp1 t₁ s.heap l1).objs.size = s.heap.objs.size + 1 := Heap.size_push _ _
  have y2 : (hp2 t₁ t₂ s.heap l1 l2).objs.size = s.heap.objs.size + 2 := by rw [Heap.size_push, y1]
  have y3 : (hp3 t₁ t₂ s.heap l1 l2).objs.size = s.heap.objs.size + 3 := by rw [Heap.size_push, y2]
  have y4 : (hp4 t₁ t₂ s.heap l1 l2).objs.size = s.heap.objs.size + 4 := by rw [Heap.size_push, y3]
  have up4 : ∀ c o, (hp4 t₁ t₂ s.heap l1 l2).get? c = some o → (hp5 t₁ t₂ s.heap l1 l2).get? c = some o := fun c o e => Heap.get?_push_of_some _ e
  have up3 : ∀ c o, (hp3 t₁ t₂ s.heap l1 l2).get? c = some o → (hp5 t₁ t₂ s.heap l1 l2).get? c = some o := fun c o e => up4 c o (Heap.get?_push_of_some _ e)
  have up2 : ∀ c o, (hp2 t₁ t₂ s.heap l1 l2).get? c = some o → (hp5 t₁ t₂ s.heap l1 l2).get? c = some o := fun c o e => up3 c o (Heap.get?_push_of_some _ e)
  have up1 : ∀ c o, (hp1 t₁ s.heap l1).get? c = some o → (hp5 t₁ t₂ s.heap l1 l2).get? c = some o := fun c o e => up2 c o (Heap.get?_push_of_some _ e)
  have e5 : (hp5 t₁ t₂ s.heap l1 l2).get? (hp4 t₁ t₂ s.heap l1 l2).objs.size = some _ := Heap.get?_push_size _ rfl
  have e4 := up4 _ _ (show (hp4 t₁ t₂ s.heap l1 l2).get? (hp3 t₁ t₂ s.heap l1 l2).objs.size = some _ from Heap.get?_push_size _ rfl)
  have e3 := up3 _ _ (show (hp3 t₁ t₂ s.heap l1 l2).get? (hp2 t₁ t₂ s.heap l1 l2).objs.size = some _ from Heap.get?_push_size _ rfl)
  have e2 := up2 _ _ (show (hp2 t₁ t₂ s.heap l1 l2).get? (hp1 t₁ s.heap l1).objs.size = some (hI t₂ l2) from Heap.get?_push_size _ rfl)
  have e1 := up1 _ _ (show (hp1 t₁ s.heap l1).get? s.heap.objs.size = some (hI t₁ l1) from Heap.get?_push_size _ rfl)
  show _ ∧ _
  rw [y2, y3, y4] at e5
  rw [y1, y2] at e3
  rw [y3] at e4
  rw [y1] at e2
  rw [y4]
  exact ⟨⟨_, e5, rfl⟩, fin _ e5 e3 e4 (hand_new t₁ e1) (hand_new t₂ e2) fun c o e => up1 c o (Heap.get?_push_of_some _ e)⟩
end
/-- a list or a tuple, told by its kind -/
abbrev Sq (t : Bool) (K : PySem.W.Frag) (H : Hp) (a : Addr) (xs : List V) : Prop := if t = true then SqT K H a xs else SqL K H a xs
theorem held_of {X : Cx} {pins : List (Addr × Obj)} {σ : L2.St} {H : Hp} {s : Shared} {t : Bool} {a : Addr} {xs : List V} (I : L2.Inv X pins σ H s) (h : Sq t X.K H a xs) : ∃ its : List Value, Vals xs its ∧ Held t s.heap a its.toArray ∧ a < s.heap.objs.size := by
  cases t with
  | true =>
    obtain ⟨its, r, p, _⟩ := I.tuple h
    obtain ⟨o, e, _⟩ := id p
    exact ⟨its, r, p, Heap.lt_size e⟩
  | false =>
    obtain ⟨its, r, p, _⟩ := I.list h
    exact ⟨its, r, p.isList, p.lt⟩
theorem same_of {X : Cx} {pins : List (Addr × Obj)} {σ : L2.St} {H : Hp} {s : Shared} {t : Bool} {a : Addr} {xs ys : List V} (I : L2.Inv X pins σ H s) (h : Sq t X.K H a xs) (h' : Sq t X.K H a ys) : xs = ys := by
  cases t with
  | true => exact I.tuple_inj h h'
  | false => exact I.list_inj h h'
/-- the two sides as they stand at each turn, the items in new pairs -/
def ItM (t₁ t₂ : Bool) (K : PySem.W.Frag) (a b : Addr) : It :=
  ⟨fun i H => ∃ (xs ys : List V) (x y : V), Sq t₁ K H a xs ∧ Sq t₂ K H b ys ∧ xs[i]? = some x ∧ ys[i]? = some y,
    fun i H v H' => ∃ T x y, v = .ref T ∧ H T = none ∧ H' = upd H T (.tup [x, y]) ∧ (∀ xs, Sq t₁ K H a xs → xs[i]? = some x) ∧ ∀ ys, Sq t₂ K H b ys → ys[i]? = some y,
    fun i H => ∃ xs ys : List V, Sq t₁ K H a xs ∧ Sq t₂ K H b ys ∧ (xs.length ≤ i ∨ ys.length ≤ i)⟩
theorem of5 {c z TI TO q1 q2 : Addr} (h : c ∈ [z, TI, TO, q1, q2]) {p : Addr → Prop} (h1 : p z) (h2 : p TI) (h3 : p TO) (h4 : p q1) (h5 : p q2) : p c := by
  simp only [List.mem_cons, List.not_mem_nil, or_false] at h
  rcases h with rfl | rfl | rfl | rfl | rfl <;> assumption
theorem turns {P : Program} {w : World} {K : PySem.W.Frag} {elts : List Expr} {kk : Nat} {tpos : Pos} {t₁ t₂ : Bool} {a b z TI TO q1 q2 : Addr} (D : ZipApart z TI TO q1 q2 a b) :
    Turn P w K (.Tuple elts kk tpos) (ItM t₁ t₂ K a b) [z, TI, TO, q1, q2] z (fun i g => IsZip g z TI TO .none ∧ IsPair g TI (.ref q1) (.ref q2) ∧ (∃ x y, IsPair g TO x y) ∧ Hand t₁ g q1 a i ∧ Hand t₂ g q2 b i) where
  mem := List.mem_cons_self
  obj := fun i g st c hc => by
    obtain ⟨g1, g2, ⟨x, y, g3⟩, g4, g5⟩ := st
    exact of5 hc (p := fun c => ∃ o, g.get? c = some o ∧ ∀ v, o.data ≠ .cell v) ⟨_, g1, fun v e => nomatch e⟩ ⟨_, g2, fun v e => nomatch e⟩ ⟨_, g3, fun v e => nomatch e⟩ g4.data g5.data
  keep := fun i g g' st k => by
    obtain ⟨g1, g2, ⟨x, y, g3⟩, g4, g5⟩ := st
    refine ⟨k z ?_ _ g1, k TI ?_ _ g2, ⟨x, y, k TO ?_ _ g3⟩, g4.stay fun o e => k q1 ?_ o e, g5.stay fun o e => k q2 ?_ o e⟩ <;> simp
  item := by
    intro X hP hw hK hc i pins s σ H E I hf st hg
    subst hP hw hK
    obtain ⟨g1, g2, ⟨x0, y0, g3⟩, g4, g5⟩ := st
    obtain ⟨xs, ys, x, y, sx, sy, hx, hy⟩ := hg
    obtain ⟨us, rx, bx, _⟩ := held_of I sx
    obtain ⟨vs, ry, by_, _⟩ := held_of I sy
    obtain ⟨u, hu, ru⟩ := rx.get hx
    obtain ⟨v, hv, rv⟩ := ry.get hy
    have zl : z < s.heap.objs.size := Heap.lt_size g1
    refine py_item D g1 g2 g3 g4 g5 bx by_ (u := u) (v := v) (by simpa using hu) (by simpa using hv) fun g e1 e2 e3 e4 e5 e6 e7 => ?_
    refine ⟨_, rfl, wpAny_letOwnedTupleGo_zip (s := { s with heap := g }) e1 fun k f1 sb => ?_⟩
    have pair : k.get? s.heap.objs.size = some { cls := .type "tuple", data := .seq #[u, v] } := (sb.2 _ (Nat.ne_of_gt zl)).trans e5
    have ob : ObjOk X.prog X.w (upd H s.heap.objs.size (.tup [x, y])) k s.heap.objs.size (.tup [x, y]) := ⟨by show 2 ≤ sizeLine; decide, [u, v], .cons ru (.cons rv .nil), ⟨_, pair, rfl, _, rfl⟩⟩
    have far : ∀ c o, c ∉ [z, TI, TO, q1, q2] → s.heap.get? c = some o → k.get? c = some o := fun c o n e => by
      simp only [List.mem_cons, List.not_mem_nil, or_false, not_or] at n
      exact (sb.2 c n.1).trans (e7 c o n.1 n.2.2.1 n.2.2.2.1 n.2.2.2.2 e)
    have I1 : Inv X pins σ (upd H s.heap.objs.size (.tup [x, y])) { s with heap := k } := I.turnedNew (t' := s.toks) (ch := [z, TI, TO, q1, q2]) far hf (Nat.le_refl _) ob
    refine ⟨.ref s.heap.objs.size, _, I1, rfl, ⟨_, x, y, rfl, I.hok.fresh (Nat.le_refl _), rfl, fun l hl => by rw [same_of I hl sx]; exact hx, fun l hl => by rw [same_of I hl sy]; exact hy⟩, ⟨f1, ?_, ⟨u, v, ?_⟩, ?_, ?_⟩, fun c hcm => ?_⟩
    · exact (sb.2 _ D.TIz).trans (e7 _ _ D.TIz D.TITO D.TIi1 D.TIi2 g2)
    · exact (sb.2 _ D.TOz).trans e2
    · exact e3.stay fun o e => (sb.2 _ D.i1z).trans e
    · exact e4.stay fun o e => (sb.2 _ D.i2z).trans e
    · have lt : c < s.heap.objs.size := of5 hcm (p := fun c => c < s.heap.objs.size) zl (Heap.lt_size g2) (Heap.lt_size g3) g4.lt g5.lt
      rw [upd_ne (Nat.ne_of_lt lt)]
      exact (hf c hcm).1
  done := by
    intro X hP hw hK hc i pins s σ H E I hf st hg
    subst hP hw hK
    obtain ⟨g1, g2, ⟨x0, y0, g3⟩, g4, g5⟩ := st
    obtain ⟨xs, ys, sx, sy, out⟩ := hg
    obtain ⟨us, rx, bx, _⟩ := held_of I sx
    obtain ⟨vs, ry, by_, _⟩ := held_of I sy
    have n1 := rx.length
    have n2 := ry.length
    have over : us.toArray[i]? = none ∨ vs.toArray[i]? = none := by
      rcases out with e | e
      · exact .inl (by simp; omega)
      · exact .inr (by simp; omega)
    refine py_end (I.ok.hd hc) D g1 g2 g3 g4 g5 bx by_ over fun g e7 => ⟨rfl, I.turnedL (t' := s.toks) (ch := [z, TI, TO, q1, q2]) (fun c o n e => ?_) hf⟩
    simp only [List.mem_cons, List.not_mem_nil, or_false, not_or] at n
    exact e7 c o n.1 n.2.2.1 n.2.2.2.1 n.2.2.2.2 e
  self := fun B i s Z E st h => wpAny_pyIter_zip st.1 h
theorem made (t u : Bool) (l1 l2 : Addr) (us vs : Array Value) : Meets (Builtin.«zip.__new__» ⟨[.type "zip", .ref l1, .ref l2], []⟩) (fun _ Rr s => Held t s.heap l1 us ∧ Held u s.heap l2 vs ∧ Rr (.ok (.ret (.ref (hp4 t u s.heap l1 l2).objs.size))) { s with heap := hp5 t u s.heap l1 l2 }) := by
  cases t with
  | true =>
    cases u with
    | true => exact RZ.meets_zipT_new l1 l2 us vs
    | false => exact made_TL l1 l2 us vs
  | false =>
    cases u with
    | true => exact made_LT l1 l2 us vs
    | false => exact meets_zip_new l1 l2 us vs
/-- whatever the two sides are -/
def iZipM (K : PySem.W.Frag) (ta : TA) : TI := fun σ H R => ta σ H fun vs H1 => ∃ a b xs ys t u, vs = [.ref a, .ref b] ∧ (Sq t K H1 a xs ∧ Sq u K H1 b ys ∧ R (ItM t u K a b) H1)
theorem pi_zipM {X : Cx} {e e2 : Expr} {ta : TA} {p pos tpos : Pos} {elts : List Expr} {kk : Nat} (hg : Gl X "zip") (hm : X.mg "zip" = none) (ha : PA X [e, e2] ta)
    (hs : starEach [e, e2] X.env = (false, eval e X.env) :: starEach [e2] X.env) (hp : (backTo pos (starEach [e2] X.env)).any (·.1) = false) :
    PI X (.Tuple elts kk tpos) (.Call (.Name "zip" p) [e, e2] [] pos) (iZipM X.K ta) := by
  refine ⟨fun pins s σ H R I h => ?_⟩
  refine Call_ (ld_blt I hg hm PyProof.Rows.boot_zip (PyProof.Rows.callWith_type1 (thn (ha.run pos pins s σ H _ I h) fun us s1 got => ?_) hs hp))
  obtain ⟨vs, H1, I1, r1, a, b, xs, ys, t, k, rfl, sx, sy, q⟩ := got
  cases r1 with
  | cons r r1 =>
    cases r1 with
    | cons r' r1 =>
      cases r1
      cases r
      cases r'
      obtain ⟨us, _, bx, la⟩ := held_of I1 sx
      obtain ⟨vs, _, by_, lb⟩ := held_of I1 sy
      have new : ∀ c, c ∈ [s1.heap.objs.size + 4, s1.heap.objs.size + 2, s1.heap.objs.size + 3, s1.heap.objs.size, s1.heap.objs.size + 1] → FpOk X pins H1 c := fun c hc => by
        have ge : s1.heap.objs.size ≤ c := of5 hc (p := fun c => s1.heap.objs.size ≤ c) (Nat.le_add_right _ _) (Nat.le_add_right _ _) (Nat.le_add_right _ _) (Nat.le_refl _) (Nat.le_add_right _ _)
        exact I1.fpOk ge (I1.hok.fresh ge)
      have go : ∀ g, IsZip g (s1.heap.objs.size + 4) (s1.heap.objs.size + 2) (s1.heap.objs.size + 3) .none → IsPair g (s1.heap.objs.size + 2) (.ref s1.heap.objs.size) (.ref (s1.heap.objs.size + 1)) → IsPair g (s1.heap.objs.size + 3) .none .none →
          Hand t g s1.heap.objs.size a 0 → Hand k g (s1.heap.objs.size + 1) b 0 → (∀ c o, s1.heap.get? c = some o → g.get? c = some o) →
          wpAny (model X.prog X.w) X.A (pyIter (.ref (s1.heap.objs.size + 4))) (PIE X pins σ (.Tuple elts kk tpos) R) X.xe { s1 with heap := g } := fun g y1 y2 y3 y4 y5 up => by
        refine wpAny_pyIter_zip y1 ?_
        exact ⟨_, _, _, _, H1, rfl, I1.kept (t' := s1.toks) up, turns (PySem.W.ktu_apart s1.heap.objs.size a b la lb), ⟨y1, y2, ⟨_, _, y3⟩, y4, y5⟩, new, q⟩
      exact zip_made (made t k a b _ _) bx by_ go
end QZ
end

section
set_option Elab.async false
set_option linter.all false
set_option maxRecDepth 100000
set_option maxHeartbeats 4000000
namespace Q
open PySem PySem.Spec PyProof.Rows L2
theorem enumFrom_get : ∀ (ds : List D) (k i : Nat), (enumFrom k ds)[i]? = (ds[i]?).map fun d => .tup [.int ((k + i : Nat) : Int), d]
  | [], _, _ => rfl
  | d :: ds, k, 0 => rfl
  | d :: ds, k, i + 1 => by
    show (enumFrom (k + 1) ds)[i]? = (ds[i]?).map _
    rw [enumFrom_get ds (k + 1) i]
    have : k + 1 + i = k + (i + 1) := by omega
    rw [this]
theorem enumFrom_len : ∀ (ds : List D) (k : Nat), (enumFrom k ds).length = ds.length
  | [], _ => rfl
  | d :: ds, k => by
    show (enumFrom (k + 1) ds).length + 1 = ds.length + 1
    rw [enumFrom_len ds (k + 1)]
def pairO (x y : Option D) : Option D := match x, y with
  | some x, some y => some (.tup [x, y])
  | _, _ => none
theorem zipD_get : ∀ (a b : List D) (i : Nat), (zipD a b)[i]? = pairO a[i]? b[i]?
  | [], b, i => by cases b <;> simp [zipD, pairO]
  | a :: as, [], i => by
    cases h : (a :: as)[i]? <;> simp [zipD, pairO]
  | a :: as, b :: bs, 0 => by simp [zipD, pairO]
  | a :: as, b :: bs, i + 1 => by
    show (zipD as bs)[i]? = _
    rw [zipD_get as bs i]
    simp
theorem zipD_len : ∀ (a b : List D), (zipD a b).length = min a.length b.length
  | [], b => by cases b <;> simp [zipD]
  | a :: as, [] => by simp [zipD]
  | a :: as, b :: bs => by
    show (zipD as bs).length + 1 = min (as.length + 1) (bs.length + 1)
    rw [zipD_len as bs]; omega
section
variable {K : PySem.W.Frag} {ι : Pl} {H : Hp} {M : Ar}
/-- a new tuple handed out -/
theorem new_pair {T : Addr} {x y : V} {d e : D} (S : Sim K ι H M) (hT : H T = none) (hx : Rep K ι H x d) (hy : Rep K ι H y e) : Ext K ι H ι (upd H T (.tup [x, y])) ∧ Sim K ι (upd H T (.tup [x, y])) M ∧ Rep K ι (upd H T (.tup [x, y])) (.ref T) (.tup [d, e]) := by
  have ex : Ext K ι H ι (upd H T (.tup [x, y])) := Ext.new hT
  exact ⟨ex, S.new hT, .tup (SqT.of upd_same) (.cons (hx.ext ex) (.cons (hy.ext ex) .nil))⟩
theorem yl_enum {a : Addr} {iv : Itv} (h : ∀ ι' H' M, Ext K ι H ι' H' → Sim K ι' H' M → ∀ i, (∀ d, itNth M i iv = some d → ∃ vs v e, SqL K H' a vs ∧ vs[i]? = some v ∧ Rep K ι' H' v e ∧ d = .tup [.int (i : Nat), e]) ∧ ∀ l, itLen M iv = some l → ∃ vs, SqL K H' a vs ∧ vs.length = l) : Yl K ι H (Ite K a) iv where
  go := fun i ι' H' M d e S q => by
    obtain ⟨vs, v, u, h1, h2, h3, rfl⟩ := (h ι' H' M e S i).1 d q
    exact ⟨⟨vs, v, h1, h2⟩, fun x H2 y => by
      obtain ⟨T, x', rfl, hT, rfl, y⟩ := y
      have := y vs h1
      rw [h2] at this; cases this
      exact new_pair S hT (.int _) h3⟩
  stop := fun i ι' H' M l e S q hl => by
    obtain ⟨vs, h1, h2⟩ := (h ι' H' M e S i).2 l q
    exact ⟨vs, h1, by omega⟩
/-- where a source's items are read -/
structure SrcAt (K : PySem.W.Frag) (ι : Pl) (H : Hp) (t : Bool) (a : Addr) (s : Src) : Prop where
  all : ∀ ι' H' M ds, Ext K ι H ι' H' → Sim K ι' H' M → srcAll M s = some ds → ∃ vs, (if t = true then SqT K H' a vs else SqL K H' a vs) ∧ Reps K ι' H' vs ds
theorem srcAt_of {v : V} {r : Rv} {s : Src} {H₁ : Hp} (S : Sim K ι H M) (rr : RepR K H₁ ι H v r) (h : srcOf r = some s) : ∃ a, v = .ref a ∧ SrcAt K ι H s.isT a s := by
  cases r with
  | m _ _ _ => cases h
  | l ds =>
    cases h
    obtain ⟨a, vs, rfl, h1, h2, h3, h4⟩ := rr
    exact ⟨a, rfl, ⟨fun ι' H' M ds' e S' q => by cases q; exact ⟨vs, SqL.of (e.out a _ h1 h3).1, h4.ext e⟩⟩⟩
  | d d =>
    cases d with
    | tup ds =>
      cases h
      cases (show Rep K ι H v (.tup ds) from rr) with
      | tup h1 h2 => exact ⟨_, rfl, ⟨fun ι' H' M ds' e S' q => by cases q; exact ⟨_, e.tup _ _ h1, h2.ext e⟩⟩⟩
    | vl ds =>
      cases h
      cases (show Rep K ι H v (.vl ds) from rr) with
      | vl f h1 h2 => exact ⟨_, rfl, ⟨fun ι' H' M ds' e S' q => by cases q; exact ⟨_, SqL.of (e.keep _ _ f h1).2, h2.ext e⟩⟩⟩
    | rl ds =>
      cases h
      cases (show Rep K ι H v (.rl ds) from rr) with
      | rl h1 h2 => exact ⟨_, rfl, ⟨fun ι' H' M ds' e S' q => by cases q; exact ⟨_, (e.fz _ _ h1).sq, h2.ext e⟩⟩⟩
    | ref n =>
      cases h
      cases (show Rep K ι H v (.ref n) from rr) with
      | ref h1 => exact ⟨_, rfl, ⟨fun ι' H' M ds' e S' q => by
          obtain ⟨b, hb, vs, g1, g2⟩ := S'.look (lstAt_some (show lstAt M n = some ds' from q))
          rw [e.pre n _ h1] at hb; cases hb
          exact ⟨vs, SqL.of g1, g2⟩⟩⟩
    | _ => cases h
/-- both sources told at once -/
theorem zip_nth {M : Ar} {a b : Src} {iv : Itv} (hv : iv = .zip a b ∨ ∃ t x u y, a = .st t x ∧ b = .st u y ∧ iv = .st (zipD x y)) :
    (∀ i d, itNth M i iv = some d → ∃ xs ys e f, srcAll M a = some xs ∧ srcAll M b = some ys ∧ xs[i]? = some e ∧ ys[i]? = some f ∧ d = .tup [e, f]) ∧
    ∀ l, itLen M iv = some l → ∃ xs ys, srcAll M a = some xs ∧ srcAll M b = some ys ∧ l = min xs.length ys.length := by
  rcases hv with rfl | ⟨t, x, u, y, rfl, rfl, rfl⟩
  · refine ⟨fun i d q => ?_, fun l q => ?_⟩
    · have q : (match (srcAll M a).bind (·[i]?), (srcAll M b).bind (·[i]?) with | some x, some y => some (D.tup [x, y]) | _, _ => none) = some d := q
      cases e1 : (srcAll M a).bind (·[i]?) with
      | none => rw [e1] at q; cases q
      | some e =>
        rw [e1] at q
        cases e2 : (srcAll M b).bind (·[i]?) with
        | none => rw [e2] at q; cases q
        | some f =>
          rw [e2] at q; cases q
          obtain ⟨xs, g1, g2⟩ := bind_some e1
          obtain ⟨ys, g3, g4⟩ := bind_some e2
          exact ⟨xs, ys, e, f, g1, g3, g2, g4, rfl⟩
    · have q : (match srcAll M a, srcAll M b with | some x, some y => some (min x.length y.length) | _, _ => none) = some l := q
      cases e1 : srcAll M a with
      | none => rw [e1] at q; cases q
      | some xs =>
        rw [e1] at q
        cases e2 : srcAll M b with
        | none => rw [e2] at q; cases q
        | some ys => rw [e2] at q; cases q; exact ⟨xs, ys, rfl, rfl, rfl⟩
  · refine ⟨fun i d q => ?_, fun l q => ?_⟩
    · have q : (zipD x y)[i]? = some d := q
      rw [zipD_get] at q
      unfold pairO at q
      cases e1 : x[i]? with
      | none => rw [e1] at q; cases q
      | some e =>
        rw [e1] at q
        cases e2 : y[i]? with
        | none => rw [e2] at q; cases q
        | some f => rw [e2] at q; cases q; exact ⟨x, y, e, f, rfl, rfl, e1, e2, rfl⟩
    · have q : some (zipD x y).length = some l := q
      cases q
      exact ⟨x, y, rfl, rfl, zipD_len x y⟩
end
section
variable {G : GX} {X : Cx} {W : WX} {a b c tg : Expr} {f g k : Env → Md Rv} {pos p : Pos} {rest : List Expr}
def sEnum (f : Env → Md Rv) : Env → Md Itv := fun env => bnd (f env) fun x => opt (enumIt x)
def sZip (f g : Env → Md Rv) : Env → Md Itv := fun env => bnd (f env) fun x => bnd (g env) fun y => opt (zipIt x y)
theorem de_one (ha : DE G X W a f) (hs : starEach (a :: []) X.env = (false, eval a X.env) :: starEach [] X.env) : PA X [a] (tCons (liftE G X.K W f) tNil) := pa_cons ha pa_nil hs
theorem di_enum {elts : List Expr} {kk : Nat} {tpos : Pos} (hg : Gl X "enumerate") (hm : X.mg "enumerate" = none) (ha : DE G X W a f) (hs : starEach [a] X.env = [(false, eval a X.env)]) :
    DI G X W (.Tuple elts kk tpos) (.Call (.Name "enumerate" p) [a] [] pos) (sEnum f) := ⟨fun pins s σ H R I ⟨ι, env, M, rs, S, go⟩ => by
  refine (pi_enum hg hm (de_one ha hs) hs).run pins s σ H R I ⟨ι, env, M, rs, S, go.bnd.mono fun r1 M1 h1 ι1 v1 H1 e1 rr1 S1 => ?_⟩
  obtain ⟨iv, e2, q⟩ := h1.opt
  have stat : ∀ {x vs ds}, iv = .st (enumFrom 0 ds) → (∀ ι' H', Ext X.K ι1 H1 ι' H' → SqL X.K H' x vs) → Reps X.K ι1 H1 vs ds → Yl X.K ι1 H1 (Ite X.K x) iv := fun {x vs ds} e hq rp => yl_enum fun ι' H' M' e' S' i => by
    subst e
    refine ⟨fun d q => ?_, fun l q => ?_⟩
    · have q : (enumFrom 0 ds)[i]? = some d := q
      rw [enumFrom_get] at q
      obtain ⟨u, q1, rfl⟩ := Option.map_eq_some_iff.mp q
      obtain ⟨v, g1, g2⟩ := (rp.ext e').get q1
      exact ⟨vs, v, u, hq ι' H' e', g1, g2, by rw [Nat.zero_add]⟩
    · have q : some (enumFrom 0 ds).length = some l := q
      cases q
      exact ⟨vs, hq ι' H' e', by rw [enumFrom_len, rp.length]⟩
  unfold enumIt at e2
  cases r1 with
  | m _ _ _ => cases e2
  | l ds =>
    cases e2
    obtain ⟨x, vs, rfl, g1, g2, g3, g4⟩ := rr1
    exact ⟨x, vs, rfl, SqL.of g1, q ι1 H1 _ e1 S1 (stat rfl (fun ι' H' e' => SqL.of (e'.out x _ g1 g3).1) g4)⟩
  | d d =>
    cases d with
    | vl ds =>
      cases e2
      cases (show Rep X.K ι1 H1 v1 (.vl ds) from rr1) with
      | vl f g1 g2 => exact ⟨_, _, rfl, SqL.of g1, q ι1 H1 _ e1 S1 (stat rfl (fun ι' H' e' => SqL.of (e'.keep _ _ f g1).2) g2)⟩
    | rl ds =>
      cases e2
      cases (show Rep X.K ι1 H1 v1 (.rl ds) from rr1) with
      | rl g1 g2 => exact ⟨_, _, rfl, g1.sq, q ι1 H1 _ e1 S1 (stat rfl (fun ι' H' e' => (e'.fz _ _ g1).sq) g2)⟩
    | ref n =>
      have e2 : (match lstAt M1 n with | some _ => some (Itv.enum n) | none => none) = some iv := e2
      cases el : lstAt M1 n with
      | none => rw [el] at e2; cases e2
      | some es0 =>
      rw [el] at e2
      cases e2
      cases (show Rep X.K ι1 H1 v1 (.ref n) from rr1) with
      | ref g1 =>
        have ro := S1.ob n _ _ g1 (lstAt_some el)
        generalize hoo : Ob.lst es0 = o at ro
        cases o with
        | dct t dks dvs => cases hoo
        | spn => cases hoo
        | lst es =>
          obtain ⟨vs, u1, _⟩ := ro
          refine ⟨_, vs, rfl, SqL.of u1, q ι1 H1 _ e1 S1 (yl_enum fun ι' H' M' e' S' i => ⟨fun d q => ?_, fun l q => ?_⟩)⟩
          · obtain ⟨u, q1, rfl⟩ := Option.map_eq_some_iff.mp (show ((lstAt M' n).bind (·[i]?)).map (fun d => D.tup [.int (i : Nat), d]) = some d from q)
            obtain ⟨ds, q2, q3⟩ := bind_some q1
            obtain ⟨b, hb, ws, w1, w2⟩ := S'.look (lstAt_some q2)
            rw [e'.pre n _ g1] at hb; cases hb
            obtain ⟨v, z1, z2⟩ := w2.get q3
            exact ⟨ws, v, u, SqL.of w1, z1, z2, rfl⟩
          · obtain ⟨ds, q2, rfl⟩ := Option.map_eq_some_iff.mp (show (lstAt M' n).map (·.length) = some l from q)
            obtain ⟨b, hb, ws, w1, w2⟩ := S'.look (lstAt_some q2)
            rw [e'.pre n _ g1] at hb; cases hb
            exact ⟨ws, SqL.of w1, w2.length⟩
    | _ => cases e2⟩
theorem di_zip {elts : List Expr} {kk : Nat} {tpos : Pos} (hg : Gl X "zip") (hm : X.mg "zip" = none) (ha : DE G X W a f) (hb : DE G X W b g) (hs : starEach [a, b] X.env = (false, eval a X.env) :: starEach [b] X.env) (hs2 : starEach [b] X.env = [(false, eval b X.env)]) :
    DI G X W (.Tuple elts kk tpos) (.Call (.Name "zip" p) [a, b] [] pos) (sZip f g) := ⟨fun pins s σ H R I ⟨ι, env, M, rs, S, go⟩ => by
  refine (QZ.pi_zipM hg hm (pa_cons ha (pa_cons hb pa_nil hs2) hs) hs (by rw [hs2]; rfl)).run pins s σ H R I ⟨ι, env, M, rs, S, go.bnd.mono fun r1 M1 h1 ι1 v1 H1 e1 rr1 S1 => ⟨ι1, env, M1, rs.ext e1, S1, (h1.bnd.later e1).mono fun r2 M2 h2 ι2 v2 H2 e2 rr2 S2 => ?_⟩⟩
  obtain ⟨iv, e3, q⟩ := h2.opt
  unfold zipIt at e3
  cases s1 : srcOf r1 with
  | none => rw [s1] at e3; cases e3
  | some a =>
    rw [s1] at e3
    cases s2 : srcOf r2 with
    | none => rw [s2] at e3; cases e3
    | some b =>
      rw [s2] at e3
      simp only at e3
      by_cases hk : ((srcAll M2 a).isSome && (srcAll M2 b).isSome) = true
      · rw [if_pos hk] at e3
        have e3 := Option.some.inj e3
        have hv : iv = .zip a b ∨ ∃ t x u y, a = .st t x ∧ b = .st u y ∧ iv = .st (zipD x y) := by
          subst e3
          cases a with
          | rf n => exact .inl rfl
          | st t x =>
            cases b with
            | rf n => exact .inl rfl
            | st u y => exact .inr ⟨t, x, u, y, rfl, rfl, rfl⟩
        obtain ⟨A, rfl, sa⟩ := srcAt_of S2 (rr1.ext e2) s1
        obtain ⟨B, rfl, sb⟩ := srcAt_of S2 rr2 s2
        obtain ⟨hka, hkb⟩ := Bool.and_eq_true_iff.mp hk
        obtain ⟨xs, hx⟩ := Option.isSome_iff_exists.mp hka
        obtain ⟨ys, hy⟩ := Option.isSome_iff_exists.mp hkb
        obtain ⟨vs, qx, _⟩ := sa.all ι2 H2 M2 xs Ext.refl S2 hx
        obtain ⟨ws, qy, _⟩ := sb.all ι2 H2 M2 ys Ext.refl S2 hy
        refine ⟨A, B, vs, ws, _, _, rfl, qx, qy, q ι2 H2 _ (e1.trans e2) S2 ⟨fun i ι' H' M' d e S' q => ?_, fun i ι' H' M' l e S' q hl => ?_⟩⟩
        · obtain ⟨xs, ys, u, w, g1, g2, g3, g4, rfl⟩ := (zip_nth hv).1 i d q
          obtain ⟨vs, z1, z2⟩ := sa.all ι' H' M' xs e S' g1
          obtain ⟨ws, z3, z4⟩ := sb.all ι' H' M' ys e S' g2
          obtain ⟨v, t1, t2⟩ := z2.get g3
          obtain ⟨v', t3, t4⟩ := z4.get g4
          refine ⟨⟨vs, ws, v, v', z1, z3, t1, t3⟩, fun x H3 y => ?_⟩
          obtain ⟨T, x', y', rfl, hT, rfl, y1, y2⟩ := y
          have y1 := y1 vs z1
          have y2 := y2 ws z3
          rw [t1] at y1; cases y1
          rw [t3] at y2; cases y2
          exact new_pair S' hT t2 t4
        · obtain ⟨xs, ys, g1, g2, rfl⟩ := (zip_nth hv).2 l q
          obtain ⟨vs, z1, z2⟩ := sa.all ι' H' M' xs e S' g1
          obtain ⟨ws, z3, z4⟩ := sb.all ι' H' M' ys e S' g2
          exact ⟨vs, ws, z1, z3, by rw [z2.length, z4.length]; omega⟩
      · rw [if_neg hk] at e3; cases e3⟩

/-! ### a test: a if c else b -/
theorem pt_ite {tc ta tb : TT} (hc : PT X c tc) (ha : PT X a ta) (hb : PT X b tb) : PT X (.IfExp c a b pos) (fun σ H Q => tc σ H fun d H1 => if d = true then ta σ H1 Q else tb σ H1 Q) := ⟨fun pins s σ H Q I h => by
  refine PyProof.Rows.isTrue_IfExp (thn (hc.run pins s σ H _ I h) fun d s1 ⟨H1, I1, q1⟩ => ?_)
  cases d with
  | true => exact ha.run pins s1 σ H1 Q I1 q1
  | false => exact hb.run pins s1 σ H1 Q I1 q1⟩
theorem dt_ite (hc : DT G X W c (asBool k)) (ha : DT G X W a (asBool f)) (hb : DT G X W b (asBool g)) : DT G X W (.IfExp c a b pos) (asBool (sIte k f g)) := (pt_ite hc ha hb).weak fun σ H Q ⟨ι, env, M, rs, S, go⟩ => by
  refine ⟨ι, env, M, rs, S, (GoX.bnd go).bnd.mono fun b1 M1 h1 ι1 H1 e1 S1 => ?_⟩
  have put : ∀ {u : Env → Md Rv}, GoX G X.K W σ ι H (u env M1) (fun r M2 => GoX G X.K W σ ι H (asB r M2) (FinB X.K ι H Q)) → liftB G X.K W (asBool u) σ H1 Q := fun {u} h => by
    refine ⟨ι1, env, M1, rs.ext e1, S1, ?_⟩
    have h2 : GoX G X.K W σ ι H (asBool u env M1) (FinB X.K ι H Q) := by
      show GoX G X.K W σ ι H (bnd (u env) asB M1) _
      unfold bnd
      cases e : u env M1 with
      | ok r M2 => rw [e] at h; exact h
      | exc c p M2 => rw [e] at h; exact h
      | stuck => rw [e] at h; exact h
    exact (h2.later e1).mono fun b2 M2 h3 ι2 H2 e2 S2 => h3 ι2 H2 (e1.trans e2) S2
  cases b1 with
  | true => exact put h1
  | false => exact put h1
end
end Q
end

section
set_option Elab.async false
set_option linter.all false
set_option maxRecDepth 100000
set_option maxHeartbeats 4000000
/-! Targets, comprehensions. -/
namespace Q
open PySem PySem.Spec PyProof.Rows L2

mutual
def Tg.slots : Tg → List Nat
  | .nm i => [i]
  | .tp gs => gs.slots
def Tgs.slots : Tgs → List Nat
  | .nil => []
  | .cons g gs => g.slots ++ gs.slots
end
/-- only these slots differ -/
def Only (L : List Nat) (σ σ' : L2.St) : Prop := σ'.length = σ.length ∧ ∀ i, i ∉ L → σ'[i]? = σ[i]?
theorem Only.refl {L : List Nat} {σ : L2.St} : Only L σ σ := ⟨rfl, fun _ _ => rfl⟩
theorem wipe_get {σ : L2.St} : ∀ {vs : List Nat} {i : Nat}, (L2.wipe σ vs)[i]? = if i ∈ vs then (if i < σ.length then some none else none) else σ[i]?
  | [], i => by simp [L2.wipe]
  | v :: vs, i => by
    unfold L2.wipe
    by_cases e : v = i
    · subst e
      rw [if_pos List.mem_cons_self]
      by_cases hl : v < σ.length
      · rw [List.getElem?_set_self (by rw [L2.wipe_length]; exact hl), if_pos hl]
      · rw [List.getElem?_eq_none (by rw [List.length_set, L2.wipe_length]; omega), if_neg hl]
    · rw [List.getElem?_set_ne e, wipe_get]
      by_cases hi : i ∈ vs
      · rw [if_pos hi, if_pos (List.mem_cons_of_mem _ hi)]
      · rw [if_neg hi, if_neg fun z => by rcases List.mem_cons.mp z with z | z; exact e z.symm; exact hi z]
theorem Only.wipe {L vs : List Nat} {σ σ' : L2.St} (h : Only L σ σ') (hs : ∀ i ∈ L, i ∈ vs) : L2.wipe σ' vs = L2.wipe σ vs := by
  apply List.ext_getElem?
  intro i
  rw [wipe_get, wipe_get, h.1]
  by_cases hi : i ∈ vs
  · rw [if_pos hi, if_pos hi]
  · rw [if_neg hi, if_neg hi, h.2 i fun z => hi (hs i z)]
section
variable {G : GX} {X : Cx} {W : WX}
def liftG (K : PySem.W.Frag) (g : Tg) : TG := fun v σ H Q => ∃ ι env d env', RepSt K ι H σ env ∧ Rep K ι H v d ∧ tgt g d env = some env' ∧ ∀ σ', RepSt K ι H σ' env' → Only g.slots σ σ' → Q σ' H
def liftGs (K : PySem.W.Frag) (g : Tgs) : TGs := fun vs σ H Q => ∃ ι env ds env', RepSt K ι H σ env ∧ Reps K ι H vs ds ∧ tgts g ds env = some env' ∧ ∀ σ', RepSt K ι H σ' env' → Only g.slots σ σ' → Q σ' H
theorem _root_.L2.PG.weak {X : Cx} {e : Expr} {t t' : TG} (h : PG X e t) (w : ∀ v σ H Q, σ.length = X.N.length → t' v σ H Q → t v σ H Q) : PG X e t' := ⟨fun pins s σ H v u Q I r q => h.run pins s σ H v u Q I r (w v σ H Q I.len q)⟩
theorem _root_.L2.PGs.weak {X : Cx} {e : List Expr} {t t' : TGs} (h : PGs X e t) (w : ∀ v σ H Q, σ.length = X.N.length → t' v σ H Q → t v σ H Q) : PGs X e t' := ⟨fun pins s σ H v u Q I r q => h.run pins s σ H v u Q I r (w v σ H Q I.len q)⟩
theorem dg_name {i : Nat} {x : Str} {pos : Pos} (hi : i < X.N.length) (h : PG X (.Name x pos) (gName i)) : PG X (.Name x pos) (liftG X.K (.nm i)) := h.weak fun v σ H Q hl ⟨ι, env, d, env', rs, r, e, q⟩ => by
  cases e
  exact q _ (rs.set r (by rw [hl]; exact hi)) ⟨by simp, fun j hj => List.getElem?_set_ne (fun z => hj (by simp [Tg.slots, z]))⟩
theorem dgs_nil : PGs X [] (liftGs X.K .nil) := pgs_nil.weak fun v σ H Q hl ⟨ι, env, ds, env', rs, r, e, q⟩ => by
  cases ds with
  | nil => cases e; cases r; exact ⟨rfl, q σ rs Only.refl⟩
  | cons _ _ => cases e
theorem dgs_cons {e : Expr} {es : List Expr} {g : Tg} {gs : Tgs} (h1 : PG X e (liftG X.K g)) (h2 : PGs X es (liftGs X.K gs)) (hs : (assignEach (e :: es) X.env).map (·.2) = assign e X.env :: (assignEach es X.env).map (·.2)) :
    PGs X (e :: es) (liftGs X.K (.cons g gs)) := (pgs_cons h1 h2 hs).weak fun v σ H Q hl ⟨ι, env, ds, env', rs, r, e, q⟩ => by
  cases ds with
  | nil => cases e
  | cons d ds =>
    cases r with
    | cons r rr =>
      have e : (match tgt g d env with | some env' => tgts gs ds env' | none => none) = some env' := e
      cases e1 : tgt g d env with
      | none => rw [e1] at e; cases e
      | some env1 =>
        rw [e1] at e
        exact ⟨_, _, rfl, ι, env, d, env1, rs, r, e1, fun σ1 rs1 o1 => ⟨ι, env1, ds, env', rs1, rr, e, fun σ2 rs2 o2 => q σ2 rs2 ⟨o2.1.trans o1.1, fun i hi => by
          have hi : i ∉ g.slots ++ gs.slots := hi
          rw [o2.2 i fun z => hi (List.mem_append_right _ z), o1.2 i fun z => hi (List.mem_append_left _ z)]⟩⟩⟩
def Tgs.count : Tgs → Nat
  | .nil => 0
  | .cons _ gs => gs.count + 1
theorem tgts_len : ∀ {gs : Tgs} {ds : List D} {env env' : Env}, tgts gs ds env = some env' → ds.length = gs.count
  | .nil, [], _, _, _ => rfl
  | .nil, _ :: _, _, _, h => by cases h
  | .cons g gs, [], _, _, h => by cases h
  | .cons g gs, d :: ds, env, env', h => by
    have h : (match tgt g d env with | some env' => tgts gs ds env' | none => none) = some env' := h
    cases e1 : tgt g d env with
    | none => rw [e1] at h; cases h
    | some env1 => rw [e1] at h; exact congrArg (· + 1) (tgts_len h)
theorem dg_tup {es : List Expr} {k : Nat} {gs : Tgs} {pos : Pos} (hc : X.calm = true) (h : PGs X es (liftGs X.K gs)) (hn : (assignEach es X.env).length = gs.count) (hst : (assignEach es X.env).findIdx? (·.1) = none) :
    PG X (.Tuple es k pos) (liftG X.K (.tp gs)) := (pg_tup hc h hn hst).weak fun v σ H Q hl ⟨ι, env, d, env', rs, r, e, q⟩ => by
  cases d with
  | tup ds =>
    obtain ⟨a, vs, rfl, h1, h2⟩ := Rep.tup_of r
    exact ⟨a, vs, rfl, h1, by rw [h2.length]; exact tgts_len e, ι, env, ds, env', rs, h2, e, q⟩
  | _ => cases e

/-! ### a comprehension -/
theorem GoX.noExc {α : Type} {K : PySem.W.Frag} {W' : WX} {σ σ' : L2.St} {ι ι' : Pl} {H H' : Hp} {x : Md α} {M : Ar} {R : α → Ar → Prop} (h : GoX G K W σ ι H (noExc x M) R) : GoX G K W' σ' ι' H' (x M) R := by
  unfold Q.noExc at h
  cases e : x M with
  | ok a M1 => rw [e] at h; exact h
  | exc c p M1 => rw [e] at h; exact False.elim h
  | stuck => rw [e] at h; exact False.elim h
/-- the block's wish: nothing is raised -/
abbrev W0 : WX := fun _ _ _ _ => False
def turnF (own : List Nat) (g : Tg) (c e : Env → Md Rv) (env : Env) : D → Md (Option D) := fun d => match tgt g d (wipe env own) with
  | some env' => noExc (bnd (bnd (c env') asB) fun
    | true => bnd (bnd (e env') settle) fun y => ret (some y)
    | false => ret none)
  | none => stk
def sComp (own : List Nat) (it : Env → Md Itv) (g : Tg) (c e : Env → Md Rv) : Env → Md Rv := fun env => bnd (it env) fun iv => bnd (compAll (turnF own g c e env) iv) fun r => ret (.l r)
theorem compL_D (f : D → Md (Option D)) : ∀ (ds all : List D) (i : Nat) (acc : List D) (M : Ar), all.drop i = ds → compL f ds acc M = compD f (.st all) i ds.length acc M
  | [], all, i, acc, M, h => by
    have hl : all.length ≤ i := by
      have := congrArg List.length h
      simp at this; omega
    show Out.ok acc.reverse M = (match itLen M (.st all) with | some l => if l ≤ i then .ok acc.reverse M else .stuck | none => .stuck)
    show _ = (if all.length ≤ i then Out.ok acc.reverse M else .stuck)
    rw [if_pos hl]
  | x :: xs, all, i, acc, M, h => by
    have hx : all[i]? = some x := by
      have := congrArg (·[0]?) h
      simpa using this
    have hr : all.drop (i + 1) = xs := by
      have := congrArg List.tail h
      simpa using this
    show bnd (f x) _ M = (match itNth M i (.st all) with | some x => bnd (f x) _ M | none => .stuck)
    rw [show itNth M i (.st all) = some x from hx]
    show bnd (f x) _ M = bnd (f x) _ M
    unfold bnd
    cases f x M with
    | ok o M' =>
      cases o with
      | none => exact compL_D f xs all (i + 1) acc M' hr
      | some d =>
        show (if acc.length < line then compL f xs (d :: acc) else stk) M' = (if acc.length < line then compD f (.st all) (i + 1) xs.length (d :: acc) else stk) M'
        by_cases hl : acc.length < line
        · rw [if_pos hl, if_pos hl]; exact compL_D f xs all (i + 1) (d :: acc) M' hr
        · rw [if_neg hl, if_neg hl]
    | exc c p M' => rfl
    | stuck => rfl
theorem compAll_D {f : D → Md (Option D)} {iv : Itv} {M : Ar} : ∃ k, compAll f iv M = compD f iv 0 k [] M ∨ compAll f iv M = .stuck := by
  have dyn : compAll f iv M = bnd (opt fun M => itLen M iv) (fun k => if k ≤ line then compD f iv 0 k [] else stk) M → ∃ k, compAll f iv M = compD f iv 0 k [] M ∨ compAll f iv M = .stuck := fun e => by
    rw [e]
    cases el : itLen M iv with
    | none => exact ⟨0, .inr (by unfold bnd opt; simp only [el])⟩
    | some k =>
      by_cases hk : k ≤ line
      · exact ⟨k, .inl (by unfold bnd opt; simp only [el]; rw [if_pos hk])⟩
      · exact ⟨k, .inr (by unfold bnd opt; simp only [el]; rw [if_neg hk]; rfl)⟩
  cases iv with
  | st ds =>
    by_cases hk : ds.length ≤ line
    · exact ⟨ds.length, .inl (by show (if ds.length ≤ line then compL f ds [] else stk) M = _; rw [if_pos hk]; exact compL_D f ds ds 0 [] M rfl)⟩
    · exact ⟨0, .inr (by show (if ds.length ≤ line then compL f ds [] else stk) M = _; rw [if_neg hk]; rfl)⟩
  | one n => exact dyn rfl
  | zip a b => exact dyn rfl
  | enum n => exact dyn rfl
theorem Reps.snoc {K : PySem.W.Frag} {ι : Pl} {H : Hp} {vs : List V} {ds : List D} {v : V} {d : D} (r : Reps K ι H vs ds.reverse) (h : Rep K ι H v d) : Reps K ι H (vs ++ [v]) (d :: ds).reverse := by
  rw [List.reverse_cons]
  exact r.append (.cons h .nil)
/-- the reading of the comprehension's term holds -/
theorem comp_weak {own : List Nat} {it : Env → Md Itv} {g : Tg} {c e : Env → Md Rv} (hg : ∀ i ∈ g.slots, i ∈ own) {tt : TT} (htt : ∀ σ H Q, liftB G X.K W0 (asBool c) σ H Q → tt σ H Q) {σ : L2.St} {H : Hp} {Q : VK} (h : liftE G X.K W (sComp own it g c e) σ H Q) :
    tLc (liftI G X.K W it) (liftG X.K g) tt (liftE G X.K W0 e) own σ H Q := by
  obtain ⟨ι, env, M, rs, S, go⟩ := h
  refine ⟨ι, env, M, rs, S, go.bnd.mono fun iv M1 h1 ι1 H1 J e1 S1 yl D0 hD => ?_⟩
  have h1 := GoX.bnd h1
  obtain ⟨k0, ek⟩ := @compAll_D (turnF own g c e env) iv M1
  rcases ek with ek | ek
  · rw [ek] at h1
    have nD : D0 ∉ ι1 := fun z => S1.ne z hD
    refine ⟨fun i m Hc => ∃ ιc Mc acc vsa, Ext X.K ι1 H1 ιc Hc ∧ Sim X.K ιc Hc Mc ∧ D0 ∉ ιc ∧ Hc D0 = some (.lst vsa) ∧ Reps X.K ιc Hc vsa acc.reverse ∧ GoX G X.K W σ ι H (compD (turnF own g c e env) iv i m acc Mc) (fun r M' => FinE X.K ι H Q (.l r) M'), ⟨k0, ι1, M1, [], [], Ext.new hD, S1.new hD, nD, upd_same, .nil, h1⟩, ?_⟩
    rintro i m Hc ⟨ιc, Mc, acc, vsa, ec, Sc, nDc, hDc, rpc, goc⟩
    cases m with
    | zero =>
      refine .inl ?_
      have goc : GoX G X.K W σ ι H (match itLen Mc iv with | some l => if l ≤ i then .ok acc.reverse Mc else .stuck | none => .stuck) (fun r M' => FinE X.K ι H Q (.l r) M') := goc
      cases el : itLen Mc iv with
      | none => rw [el] at goc; exact False.elim goc
      | some l =>
        rw [el] at goc
        simp only at goc
        by_cases hl : l ≤ i
        · rw [if_pos hl] at goc
          exact ⟨yl.stop i ιc Hc Mc l ec Sc el hl, goc ιc _ Hc (e1.trans ec) ⟨D0, vsa, rfl, hDc, e1.noneB hD, nDc, rpc⟩ Sc⟩
        · rw [if_neg hl] at goc; exact False.elim goc
    | succ m =>
      refine .inr ?_
      have goc : GoX G X.K W σ ι H (match itNth Mc i iv with
        | some x => bnd (turnF own g c e env x) (fun
          | some d => if acc.length < line then compD (turnF own g c e env) iv (i + 1) m (d :: acc) else stk
          | none => compD (turnF own g c e env) iv (i + 1) m acc) Mc
        | none => .stuck) (fun r M' => FinE X.K ι H Q (.l r) M') := goc
      cases en : itNth Mc i iv with
      | none => rw [en] at goc; exact False.elim goc
      | some d =>
        rw [en] at goc
        obtain ⟨jg, jy⟩ := yl.go i ιc Hc Mc d ec Sc en
        refine ⟨jg, _, fun H' w => ⟨m, Nat.lt_succ_self _, w⟩, fun x H' y => ?_⟩
        obtain ⟨ey, Sy, ry⟩ := jy x H' y
        have hDy := (ey.out D0 _ hDc nDc).1
        have gt := GoX.bnd goc
        unfold turnF at gt
        cases et : tgt g d (_root_.Q.wipe env own) with
        | none => rw [et] at gt; exact False.elim gt
        | some env1 =>
          rw [et] at gt
          have rs1 : RepSt X.K ιc H' (L2.wipe σ own) (_root_.Q.wipe env own) := (((rs.ext e1).ext ec).ext ey).wipe own
          refine ⟨ιc, _, d, env1, rs1, ry, et, fun σ2 rs2 o2 => ⟨?_, htt _ _ _ ?_⟩⟩
          · have := o2.wipe hg
            rw [this]
            apply List.ext_getElem?
            intro j
            rw [wipe_get, wipe_get, L2.wipe_length]
            by_cases hj : j ∈ own
            · rw [if_pos hj, if_pos hj]
            · simp only [if_neg hj, wipe_get]
          · have gc : GoX G X.K W0 σ2 ιc H' (bnd (bnd (c env1) asB) (fun
              | true => bnd (bnd (e env1) settle) fun y => ret (some y)
              | false => ret none) Mc) _ := GoX.noExc gt
            refine ⟨ιc, env1, Mc, rs2, Sy, gc.bnd.mono fun b Mb hb ιb Hb eb Sb => ?_⟩
            have ecb : Ext X.K ι1 H1 ιb Hb := ec.trans (ey.trans eb)
            have hDb := eb.out D0 _ hDy (ey.out D0 _ hDc nDc).2
            cases b with
            | false =>
              refine iteF ?_
              have hb : GoX G X.K W σ ι H (compD (turnF own g c e env) iv (i + 1) m acc Mb) (fun r M' => FinE X.K ι H Q (.l r) M') := hb
              exact ⟨ιb, Mb, acc, vsa, ecb, Sb, hDb.2, hDb.1, (rpc.ext ey).ext eb, hb⟩
            | true =>
              refine iteT ?_
              refine ⟨ιb, env1, Mb, rs2.ext eb, Sb, ((GoX.bnd hb).later eb).bnd.mono fun r Mr hr ιr v Hr er rr Sr => ?_⟩
              obtain ⟨u, ιu, Mu, hu, eu, ru, Su⟩ := settle_go hr er rr Sr
              have hDu := eu.out D0 _ hDb.1 hDb.2
              have rpu : Reps X.K ιu Hr vsa acc.reverse := ((rpc.ext ey).ext eb).ext eu
              have hu : GoX G X.K W σ ι H ((if acc.length < line then compD (turnF own g c e env) iv (i + 1) m (u :: acc) else stk) Mu) (fun r M' => FinE X.K ι H Q (.l r) M') := GoX.ret hu
              by_cases hl : acc.length < line
              · rw [if_pos hl] at hu
                refine ⟨vsa, hDu.1, ?_, ιu, Mu, u :: acc, vsa ++ [v], Ext.upd_l (ecb.trans eu) hD (by rw [hDu.1]; exact fun z => nomatch z), Su.upd_l hDu.1 hDu.2, hDu.2, upd_same, (Rep.upd_l hDu.1 (Pl.nin hDu.2).2).2 (rpu.snoc ru), hu⟩
                have := rpu.length
                rw [List.length_reverse] at this
                rw [this]; exact Nat.lt_trans hl line_lt
              · rw [if_neg hl] at hu; exact False.elim hu
  · rw [ek] at h1; exact False.elim h1
end
end Q
end

section
set_option Elab.async false
set_option linter.all false
set_option maxRecDepth 100000
set_option maxHeartbeats 4000000
/-! Statements. -/
namespace Q
open PySem PySem.Spec PyProof.Rows L2
/-- a wish that asks nothing of the names -/
def Free (W : WX) : Prop := ∀ c d σ σ' H, W c d σ H → W c d σ' H
theorem GoX.to {α : Type} {G : GX} {K : PySem.W.Frag} {W : WX} (fw : Free W) {σ σ' : L2.St} {ι ι' : Pl} {H H' : Hp} {x : Out α} {R : α → Ar → Prop} (h : GoX G K W σ ι H x R) (e : Ext K ι H ι' H') : GoX G K W σ' ι' H' x R := by
  cases x with
  | ok a M => exact h
  | exc c p M => exact fun ι'' cls oe H'' e' s q => fw _ _ _ _ _ (h ι'' cls oe H'' (e.trans e') s q)
  | stuck => exact h
def FinS (K : PySem.W.Frag) (ι : Pl) (H : Hp) (D : Ends) : Fl → Ar → Prop
  | .nx env', M' => ∀ ι' σ' H', Ext K ι H ι' H' → RepSt K ι' H' σ' env' → Sim K ι' H' M' → D.nx σ' H'
  | .bk env', M' => ∀ ι' σ' H', Ext K ι H ι' H' → RepSt K ι' H' σ' env' → Sim K ι' H' M' → D.bk σ' H'
  | .ct env', M' => ∀ ι' σ' H', Ext K ι H ι' H' → RepSt K ι' H' σ' env' → Sim K ι' H' M' → D.ct σ' H'
  | .rt r, M' => ∀ ι' v H', Ext K ι H ι' H' → RepR K H ι' H' v r → Sim K ι' H' M' → D.rt v H'
def liftS (G : GX) (K : PySem.W.Frag) (W : WX) (f : Env → Md Fl) : TS := fun D σ H => ∃ ι env M, RepSt K ι H σ env ∧ Sim K ι H M ∧ GoX G K W σ ι H (f env M) (FinS K ι H D)
abbrev DS (G : GX) (X : Cx) (W : WX) (s : Stmt) (f : Env → Md Fl) : Prop := PS X s (liftS G X.K W f)
abbrev DSs (G : GX) (X : Cx) (W : WX) (s : List Stmt) (f : Env → Md Fl) : Prop := PSs X s (liftS G X.K W f)
section
variable {G : GX} {X : Cx} {W : WX} {a b c e tg : Expr} {f g k : Env → Md Rv} {pos p : Pos} {rest : List Stmt} {st : Stmt}
theorem dss_nil : DSs G X W [] fun env => ret (.nx env) := pss_nil.weak fun D σ H ⟨ι, env, M, rs, S, go⟩ => go ι σ H Ext.refl rs S
def sSeqS (s r : Env → Md Fl) : Env → Md Fl := fun env => bnd (s env) fun
  | .nx e => r e
  | f => ret f
theorem FinS.mono {K : PySem.W.Frag} {ι ι1 : Pl} {H H1 : Hp} {D : Ends} {fl : Fl} {M : Ar} (h : FinS K ι H D fl M) (e : Ext K ι H ι1 H1) : FinS K ι1 H1 D fl M := by
  cases fl with
  | nx env => exact fun ι' σ' H' e' => h ι' σ' H' (e.trans e')
  | bk env => exact fun ι' σ' H' e' => h ι' σ' H' (e.trans e')
  | ct env => exact fun ι' σ' H' e' => h ι' σ' H' (e.trans e')
  | rt r => exact fun ι' v H' e' rr => h ι' v H' (e.trans e') (rr.back fun _ z => e.noneB z)
theorem dss_cons (fw : Free W) {s r : Env → Md Fl} (h1 : DS G X W st s) (h2 : DSs G X W rest r) : DSs G X W (st :: rest) (sSeqS s r) := (pss_cons h1 h2).weak fun D σ H ⟨ι, env, M, rs, S, go⟩ => by
  refine ⟨ι, env, M, rs, S, go.bnd.mono fun fl M1 h => ?_⟩
  cases fl with
  | nx env1 => exact fun ι1 σ1 H1 e1 rs1 S1 => ⟨ι1, env1, M1, rs1, S1, (GoX.to fw h e1).mono fun fl M2 h2 => FinS.mono h2 e1⟩
  | bk env1 => exact (show FinS X.K ι H D (.bk env1) M1 from h)
  | ct env1 => exact (show FinS X.K ι H D (.ct env1) M1 from h)
  | rt r => exact (show FinS X.K ι H D (.rt r) M1 from h)
theorem ds_never : DS G X W st fun _ => stk := ⟨fun pins s σ H D I ⟨_, _, _, _, _, go⟩ => False.elim go⟩
theorem ds_pass : DS G X W (.Pass pos) fun env => ret (.nx env) := ps_pass.weak fun D σ H ⟨ι, env, M, rs, S, go⟩ => go ι σ H Ext.refl rs S
theorem ds_break : DS G X W (.Break pos) fun env => ret (.bk env) := ps_break.weak fun D σ H ⟨ι, env, M, rs, S, go⟩ => go ι σ H Ext.refl rs S
theorem ds_cont : DS G X W (.Continue pos) fun env => ret (.ct env) := ps_continue.weak fun D σ H ⟨ι, env, M, rs, S, go⟩ => go ι σ H Ext.refl rs S
theorem ds_doc {x j} : DS G X W (.Expr (.Constant (.str x) j p) pos) fun env => ret (.nx env) := ps_doc.weak fun D σ H ⟨ι, env, M, rs, S, go⟩ => go ι σ H Ext.refl rs S
def sExpr (f : Env → Md Rv) : Env → Md Fl := fun env => bnd (f env) fun _ => ret (.nx env)
theorem ds_expr (hs : swapsWith e none pos.line X.env = pure false) (h : DE G X W e f) : DS G X W (.Expr e pos) (sExpr f) := (ps_expr h hs).weak fun D σ H ⟨ι, env, M, rs, S, go⟩ =>
  ⟨ι, env, M, rs, S, go.bnd.mono fun r M1 h ι1 v1 H1 e1 rr1 S1 => GoX.ret h ι1 σ H1 e1 (rs.ext e1) S1⟩
def sRet (f : Env → Md Rv) : Env → Md Fl := fun env => bnd (f env) fun r => ret (.rt r)
theorem ds_ret (h : DE G X W e f) : DS G X W (.Return (some e) pos) (sRet f) := (ps_ret h).weak fun D σ H ⟨ι, env, M, rs, S, go⟩ =>
  ⟨ι, env, M, rs, S, go.bnd.mono fun r M1 h ι1 v1 H1 e1 rr1 S1 => GoX.ret h ι1 v1 H1 e1 rr1 S1⟩
theorem ds_retN : DS G X W (.Return none pos) fun _ => ret (.rt (.d .non)) := ps_retN.weak fun D σ H ⟨ι, env, M, rs, S, go⟩ => go ι _ H Ext.refl .non S
def sIf (c : Env → Md Rv) (s r : Env → Md Fl) : Env → Md Fl := fun env => bnd (asBool c env) fun
  | true => s env
  | false => r env
theorem ds_if {s r : Env → Md Fl} {x y : List Stmt} (hc : DT G X W c (asBool k)) (ha : DSs G X W x s) (hb : DSs G X W y r) : DS G X W (.If c x y pos) (sIf k s r) := (ps_if hc ha hb).weak fun D σ H ⟨ι, env, M, rs, S, go⟩ =>
  ⟨ι, env, M, rs, S, go.bnd.mono fun b M1 h ι1 H1 e1 S1 => by
    cases b with
    | true => exact iteT ⟨ι1, env, M1, rs.ext e1, S1, (GoX.later h e1).mono fun fl M2 h2 => FinS.mono h2 e1⟩
    | false => exact iteF ⟨ι1, env, M1, rs.ext e1, S1, (GoX.later h e1).mono fun fl M2 h2 => FinS.mono h2 e1⟩⟩
/-- target = value -/
def sAsg (g : Tg) (f : Env → Md Rv) : Env → Md Fl := fun env => bnd (bnd (f env) settle) fun d => match tgt g d env with
  | some env' => ret (.nx env')
  | none => stk
theorem asg_weak {g : Tg} {te : TE} (hw : ∀ σ H Q, liftE G X.K W f σ H Q → te σ H Q) {D : Ends} {σ : L2.St} {H : Hp} (h : liftS G X.K W (sAsg g f) D σ H) : tAsg te (liftG X.K g) D σ H := by
  obtain ⟨ι, env, M, rs, S, go⟩ := h
  refine hw _ _ _ ⟨ι, env, M, rs, S, go.bnd.bnd.mono fun r M1 h ι1 v1 H1 e1 rr1 S1 => ?_⟩
  obtain ⟨d, ι2, M2, h2, e2, rd, S2⟩ := settle_go h e1 rr1 S1
  cases et : tgt g d env with
  | none => rw [et] at h2; exact False.elim h2
  | some env' =>
    rw [et] at h2
    exact ⟨ι2, env, d, env', rs.ext e2, rd, et, fun σ' rs' _ => GoX.ret h2 ι2 σ' H1 e2 rs' S2⟩
theorem ds_asg {g : Tg} (hs : swapsWithSole [tg] e pos.line X.env = pure false) (hw : swappedStores [tg] e X.env = pure none) (h1 : (assignEach [tg] X.env).map (·.2) = [assign tg X.env]) (he : DE G X W e f) (hg : PG X tg (liftG X.K g)) : DS G X W (.Assign [tg] e pos) (sAsg g f) :=
  (ps_asg he hg hs hw h1).weak fun D σ H h => asg_weak (fun _ _ _ z => z) h
/-- target = value, which gets a place -/
def sAsgP (g : Tg) (f : Env → Md Rv) : Env → Md Fl := fun env => bnd (bnd (f env) place) fun d => match tgt g d env with
  | some env' => ret (.nx env')
  | none => stk
theorem asgP_weak {g : Tg} {te : TE} (hw : ∀ σ H Q, liftE G X.K W f σ H Q → te σ H Q) {D : Ends} {σ : L2.St} {H : Hp} (h : liftS G X.K W (sAsgP g f) D σ H) : tAsg te (liftG X.K g) D σ H := by
  obtain ⟨ι, env, M, rs, S, go⟩ := h
  refine hw _ _ _ ⟨ι, env, M, rs, S, go.bnd.bnd.mono fun r M1 h ι1 v1 H1 e1 rr1 S1 => ?_⟩
  obtain ⟨d, ι2, M2, h2, e2, rd, S2⟩ := place_go h e1 rr1 S1
  cases et : tgt g d env with
  | none => rw [et] at h2; exact False.elim h2
  | some env' =>
    rw [et] at h2
    exact ⟨ι2, env, d, env', rs.ext e2, rd, et, fun σ' rs' _ => GoX.ret h2 ι2 σ' H1 e2 rs' S2⟩
theorem ds_asgP {g : Tg} (hs : swapsWithSole [tg] e pos.line X.env = pure false) (hw : swappedStores [tg] e X.env = pure none) (h1 : (assignEach [tg] X.env).map (·.2) = [assign tg X.env]) (he : DE G X W e f) (hg : PG X tg (liftG X.K g)) : DS G X W (.Assign [tg] e pos) (sAsgP g f) :=
  (ps_asg he hg hs hw h1).weak fun D σ H h => asgP_weak (fun _ _ _ z => z) h
/-- o[i] = value -/
def sPut (f g k : Env → Md Rv) : Env → Md Fl := fun env => bnd (bnd (k env) settle) fun d => bnd (f env) fun x => bnd (g env) fun y => bnd (putAt x y d) fun _ => ret (.nx env)
theorem ds_put (hs : swapsWithSole [.Subscript a b p] e pos.line X.env = pure false) (hw : swappedStores [.Subscript a b p] e X.env = pure none)
    (hb2 : ∀ v, assign (.Subscript a b p) X.env v = (do
      let ov ← holding [v] (eval a X.env)
      let iv ← holding [v, ov] (eval b X.env)
      standAt p
      holding [v, ov, iv] (setItem ov iv v)
      release [v, ov, iv] [])) (ha : DE G X W a f) (hb : DE G X W b g) (he : DE G X W e k) : DS G X W (.Assign [.Subscript a b p] e pos) (sPut f g k) :=
  (ps_asg he (pg_sub ha hb put_ok hb2) hs hw (by rfl)).weak fun D σ H ⟨ι, env, M, rs, S, go⟩ =>
    ⟨ι, env, M, rs, S, go.bnd.bnd.mono fun r M1 h ι1 v1 H1 e1 rr1 S1 => by
      obtain ⟨d, ι2, M2, h2, e2, rd, S2⟩ := settle_go h e1 rr1 S1
      refine ⟨ι2, env, M2, rs.ext e2, S2, (h2.bnd.later e2).mono fun r3 M3 h3 ι3 v3 H3 e3 rr3 S3 => ⟨ι3, env, M3, (rs.ext e2).ext e3, S3, (h3.bnd.later (e2.trans e3)).mono fun r4 M4 h4 ι4 v4 H4 e4 rr4 S4 => ?_⟩⟩
      have h4 := GoX.bnd h4
      cases ep : putAt r3 r4 d M4 with
      | stuck => rw [ep] at h4; exact False.elim h4
      | exc c p M5 =>
        unfold putAt at ep
        split at ep
        · split at ep
          · split at ep <;> cases ep
          · cases ep
        · cases ep
      | ok u M5 =>
        rw [ep] at h4
        exact ⟨ι4, H1, H3, M4, r3, r4, d, M5, rr3.ext e4, rr4, (rd.ext e3).ext e4, S4, ep, fun H5 e5 S5 => GoX.ret h4 ι4 σ H5 (e2.trans (e3.trans (e4.trans e5))) ((((rs.ext e2).ext e3).ext e4).ext e5) S5⟩⟩
theorem _root_.L2.PS.weakN {X : Cx} {e : Stmt} {t t' : TS} (h : PS X e t) (w : ∀ D σ H, σ.length = X.N.length → t' D σ H → t D σ H) : PS X e t' := ⟨fun pins s σ H D I q => h.run pins s σ H D I (w D σ H I.len q)⟩
/-- a, b = x, y -/
def sPar (js : List Nat) (t : Env → Md (List D)) : Env → Md Fl := fun env => bnd (t env) fun ds => match sets js ds env with
  | some env' => ret (.nx env')
  | none => stk
theorem ds_par2 {es : List Expr} {t : Env → Md (List D)} {i j : Nat} (hi : i < X.N.length) (hj : j < X.N.length) (hR : PS X st (tPar i j (liftA G X.K W t))) : DS G X W st (sPar [i, j] t) := hR.weakN fun D σ H hl h => by
  obtain ⟨ι, env, M, rs, S, go⟩ := h
  refine ⟨ι, env, M, rs, S, go.bnd.mono fun ds M1 h ι1 vs H1 e1 rr S1 => ?_⟩
  match ds, rr, h with
  | [d, d'], .cons r1 (.cons r2 .nil), h =>
    have h : FinS X.K ι H D (.nx ((env.set i (some d)).set j (some d'))) M1 := h
    exact ⟨_, _, rfl, h ι1 _ H1 e1 (((rs.ext e1).set r1 (by rw [hl]; exact hi)).set r2 (by rw [List.length_set, hl]; exact hj)) S1⟩
  | [], _, h => exact False.elim h
  | [_], _, h => exact False.elim h
  | _ :: _ :: _ :: _, _, h => exact False.elim h
theorem ds_par3 {es : List Expr} {t : Env → Md (List D)} {i j l : Nat} (hi : i < X.N.length) (hj : j < X.N.length) (hk : l < X.N.length) (hR : PS X st (tPar3 i j l (liftA G X.K W t))) : DS G X W st (sPar [i, j, l] t) := hR.weakN fun D σ H hl h => by
  obtain ⟨ι, env, M, rs, S, go⟩ := h
  refine ⟨ι, env, M, rs, S, go.bnd.mono fun ds M1 h ι1 vs H1 e1 rr S1 => ?_⟩
  match ds, rr, h with
  | [d, d', d''], .cons r1 (.cons r2 (.cons r3 .nil)), h =>
    have h : FinS X.K ι H D (.nx (((env.set i (some d)).set j (some d')).set l (some d''))) M1 := h
    exact ⟨_, _, _, rfl, h ι1 _ H1 e1 ((((rs.ext e1).set r1 (by rw [hl]; exact hi)).set r2 (by rw [List.length_set, hl]; exact hj)).set r3 (by rw [List.length_set, List.length_set, hl]; exact hk)) S1⟩
  | [], _, h => exact False.elim h
  | [_], _, h => exact False.elim h
  | [_, _], _, h => exact False.elim h
  | _ :: _ :: _ :: _ :: _, _, h => exact False.elim h

/-! ### loops -/
def forF (g : Tg) (s : Env → Md Fl) : D → Env → Md Fl := fun d e => match tgt g d e with
  | some e' => s e'
  | none => stk
def sFor (it : Env → Md Itv) (g : Tg) (s : Env → Md Fl) : Env → Md Fl := fun env => bnd (it env) fun iv => forAll_ (forF g s) iv env
theorem forL_D (f : D → Env → Md Fl) : ∀ (ds all : List D) (i : Nat) (env : Env) (M : Ar), all.drop i = ds → forL f ds env M = forD f (.st all) i ds.length env M
  | [], all, i, env, M, h => by
    have hl : all.length ≤ i := by
      have := congrArg List.length h
      simp at this; omega
    show Out.ok (Fl.nx env) M = (if all.length ≤ i then Out.ok (Fl.nx env) M else .stuck)
    rw [if_pos hl]
  | x :: xs, all, i, env, M, h => by
    have hx : all[i]? = some x := by
      have := congrArg (·[0]?) h
      simpa using this
    have hr : all.drop (i + 1) = xs := by
      have := congrArg List.tail h
      simpa using this
    show bnd (f x env) _ M = (match itNth M i (.st all) with | some x => bnd (f x env) _ M | none => .stuck)
    rw [show itNth M i (.st all) = some x from hx]
    show bnd (f x env) _ M = bnd (f x env) _ M
    unfold bnd
    cases f x env M with
    | ok o M' =>
      cases o with
      | nx e => exact forL_D f xs all (i + 1) e M' hr
      | ct e => exact forL_D f xs all (i + 1) e M' hr
      | bk e => rfl
      | rt r => rfl
    | exc c p M' => rfl
    | stuck => rfl
theorem forAll_D {f : D → Env → Md Fl} {iv : Itv} {env : Env} {M : Ar} : ∃ k, forAll_ f iv env M = forD f iv 0 k env M ∨ forAll_ f iv env M = .stuck := by
  have dyn : forAll_ f iv env M = bnd (opt fun M => itLen M iv) (fun k => if k ≤ line then forD f iv 0 k env else stk) M → ∃ k, forAll_ f iv env M = forD f iv 0 k env M ∨ forAll_ f iv env M = .stuck := fun e => by
    rw [e]
    cases el : itLen M iv with
    | none => exact ⟨0, .inr (by unfold bnd opt; simp only [el])⟩
    | some k =>
      by_cases hk : k ≤ line
      · exact ⟨k, .inl (by unfold bnd opt; simp only [el]; rw [if_pos hk])⟩
      · exact ⟨k, .inr (by unfold bnd opt; simp only [el]; rw [if_neg hk]; rfl)⟩
  cases iv with
  | st ds =>
    by_cases hk : ds.length ≤ line
    · exact ⟨ds.length, .inl (by show (if ds.length ≤ line then forL f ds env else stk) M = _; rw [if_pos hk]; exact forL_D f ds ds 0 env M rfl)⟩
    · exact ⟨0, .inr (by show (if ds.length ≤ line then forL f ds env else stk) M = _; rw [if_neg hk]; rfl)⟩
  | one n => exact dyn rfl
  | zip a b => exact dyn rfl
  | enum n => exact dyn rfl
theorem ds_for (fw : Free W) (hp : PassesOwn (model X.prog X.w) X.A X.env X.xe) (hc : X.calm = true) {it : Env → Md Itv} {g : Tg} {s : Env → Md Fl} {iter : Expr} {body : List Stmt} (hs : ∀ x, foldedSetIterable iter X.env x = pure x)
    (hi : DI G X W tg iter it) (hg : PG X tg (liftG X.K g)) (hb : DSs G X W body s) : DS G X W (.For tg iter body [] pos) (sFor it g s) := (ps_for hp hc hi hg hb hs).weak fun D σ H ⟨ι, env, M, rs, S, go⟩ => by
  refine ⟨ι, env, M, rs, S, go.bnd.mono fun iv M1 h1 ι1 H1 J e1 S1 yl => ?_⟩
  obtain ⟨k0, ek⟩ := @forAll_D (forF g s) iv env M1
  rcases ek with ek | ek
  · rw [ek] at h1
    refine ⟨fun i m σc Hc => ∃ ιc Mc ec, Ext X.K ι1 H1 ιc Hc ∧ Sim X.K ιc Hc Mc ∧ RepSt X.K ιc Hc σc ec ∧ GoX G X.K W σ ι H (forD (forF g s) iv i m ec Mc) (FinS X.K ι H D), ⟨k0, ι1, M1, env, Ext.refl, S1, rs.ext e1, h1⟩, ?_⟩
    rintro i m σc Hc ⟨ιc, Mc, envc, ec, Sc, rsc, goc⟩
    cases m with
    | zero =>
      refine .inl ?_
      have goc : GoX G X.K W σ ι H (match itLen Mc iv with | some l => if l ≤ i then .ok (Fl.nx envc) Mc else .stuck | none => .stuck) (FinS X.K ι H D) := goc
      cases el : itLen Mc iv with
      | none => rw [el] at goc; exact False.elim goc
      | some l =>
        rw [el] at goc
        simp only at goc
        by_cases hl : l ≤ i
        · rw [if_pos hl] at goc
          exact ⟨yl.stop i ιc Hc Mc l ec Sc el hl, goc ιc σc Hc (e1.trans ec) rsc Sc⟩
        · rw [if_neg hl] at goc; exact False.elim goc
    | succ m =>
      refine .inr ?_
      have goc : GoX G X.K W σ ι H (match itNth Mc i iv with
        | some x => bnd (forF g s x envc) (fun
          | .nx e => forD (forF g s) iv (i + 1) m e
          | .ct e => forD (forF g s) iv (i + 1) m e
          | .bk e => ret (.nx e)
          | .rt r => ret (.rt r)) Mc
        | none => .stuck) (FinS X.K ι H D) := goc
      cases en : itNth Mc i iv with
      | none => rw [en] at goc; exact False.elim goc
      | some d =>
        rw [en] at goc
        obtain ⟨jg, jy⟩ := yl.go i ιc Hc Mc d ec Sc en
        refine ⟨jg, _, fun σ' H' w => ⟨m, Nat.lt_succ_self _, w⟩, fun x H' y => ?_⟩
        obtain ⟨ey, Sy, ry⟩ := jy x H' y
        have gt := GoX.bnd goc
        cases et : tgt g d envc with
        | none =>
          have gt : GoX G X.K W σ ι H ((match tgt g d envc with | some e' => s e' | none => stk) Mc) _ := gt
          rw [et] at gt
          exact False.elim gt
        | some env1 =>
          have gt : GoX G X.K W σ ι H ((match tgt g d envc with | some e' => s e' | none => stk) Mc) _ := gt
          rw [et] at gt
          refine ⟨ιc, envc, d, env1, rsc.ext ey, ry, et, fun σ2 rs2 o2 => ⟨ιc, env1, Mc, rs2, Sy, (GoX.to fw gt ((e1.trans ec).trans ey)).mono fun fl Mf hf => ?_⟩⟩
          cases fl with
          | nx e2 => exact fun ι' σ' H'' e' rs' S' => ⟨ι', Mf, e2, ec.trans (ey.trans e'), S', rs', hf⟩
          | ct e2 => exact fun ι' σ' H'' e' rs' S' => ⟨ι', Mf, e2, ec.trans (ey.trans e'), S', rs', hf⟩
          | bk e2 => exact fun ι' σ' H'' e' rs' S' => GoX.ret hf ι' σ' H'' ((e1.trans ec).trans (ey.trans e')) rs' S'
          | rt r => exact fun ι' v H'' e' rr S' => GoX.ret hf ι' v H'' ((e1.trans ec).trans (ey.trans e')) (rr.back fun _ z => ((e1.trans ec).trans ey).noneB z) S'
  · rw [ek] at h1; exact False.elim h1
def sWhile (fuel : Nat) (c : Env → Md Rv) (s : Env → Md Fl) : Env → Md Fl := fun env => whileF (fun e => asBool c e) s fuel env
theorem ds_while (fw : Free W) (hp : PassesOwn (model X.prog X.w) X.A X.env X.xe) {fuel : Nat} {s : Env → Md Fl} {body : List Stmt} (hc : DT G X W c (asBool k)) (hb : DSs G X W body s) : DS G X W (.While c body [] pos) (sWhile fuel k s) := (ps_while hp hc hb).weak fun D σ H ⟨ι, env, M, rs, S, go⟩ => by
  refine ⟨fun m σc Hc => ∃ ιc Mc ec, Ext X.K ι H ιc Hc ∧ Sim X.K ιc Hc Mc ∧ RepSt X.K ιc Hc σc ec ∧ GoX G X.K W σ ι H (whileF (fun e => asBool k e) s m ec Mc) (FinS X.K ι H D), ⟨fuel, ι, M, env, Ext.refl, S, rs, go⟩, ?_⟩
  rintro m σc Hc ⟨ιc, Mc, envc, ec, Sc, rsc, goc⟩
  cases m with
  | zero => exact False.elim goc
  | succ m =>
    have gt := GoX.bnd goc
    refine ⟨ιc, envc, Mc, rsc, Sc, (GoX.to fw gt ec).mono fun b M1 h1 ι1 H1 e1 S1 => ?_⟩
    cases b with
    | false => exact iteF (GoX.ret h1 ι1 σc H1 (ec.trans e1) (rsc.ext e1) S1)
    | true =>
      refine iteT ⟨_, fun σ' H' w => ⟨m, Nat.lt_succ_self _, w⟩, ι1, envc, M1, rsc.ext e1, S1, (GoX.to fw (GoX.bnd h1) (ec.trans e1)).mono fun fl Mf hf => ?_⟩
      cases fl with
      | nx e2 => exact fun ι' σ' H'' e' rs' S' => ⟨ι', Mf, e2, ec.trans (e1.trans e'), S', rs', hf⟩
      | ct e2 => exact fun ι' σ' H'' e' rs' S' => ⟨ι', Mf, e2, ec.trans (e1.trans e'), S', rs', hf⟩
      | bk e2 => exact fun ι' σ' H'' e' rs' S' => GoX.ret hf ι' σ' H'' (ec.trans (e1.trans e')) rs' S'
      | rt r => exact fun ι' v H'' e' rr S' => GoX.ret hf ι' v H'' (ec.trans (e1.trans e')) (rr.back fun _ z => (ec.trans e1).noneB z) S'
end
end Q
end

section
set_option Elab.async false
set_option linter.all false
set_option maxRecDepth 100000
set_option maxHeartbeats 4000000
/-! The look that a term is that of an expression, and that then it computes it. -/
namespace Q
open PySem PySem.Spec PyProof.Rows L2

/-! ### looks -/
def unBin : Expr → Option (Expr × Operator × Expr)
  | .BinOp a o b _ => some (a, o, b)
  | _ => none
def starE : Expr → Bool
  | .Starred _ _ => true
  | _ => false
def sliceE : Expr → Bool
  | .Slice _ _ _ _ => true
  | _ => false
def setE : Expr → Bool
  | .Set _ _ _ => true
  | _ => false
def cstOk (d : D) (c : Const) : Bool := match c, d with
  | .none, .non => true
  | .bool a, .bl b => a == b
  | .int a, .int b => decide (a = b)
  | .str a, .str b => decide (a.cps.toList = b)
  | _, _ => false
def tyNm : Ty → Str
  | .int => "int" | .bool => "bool" | .str => "str" | .tuple => "tuple" | .list => "list" | .dict => "dict"
def bltNm : Blt → Str
  | .len => "len" | .abs => "abs" | .int => "int" | .max => "max" | .min => "min" | .sum => "sum" | .all => "all" | .any => "any"
  | .tuple => "tuple" | .list => "list" | .gcd => "gcd" | .sorted => "sorted" | .lenset => "set" | .str => "str"
def mthNm : Mth → Str
  | .append => "append" | .pop => "pop" | .extend => "extend"
def bopIs (o : Bop) (p : Operator) : Bool := match o, p with
  | .add, .Add | .sub, .Sub | .mul, .Mult | .div, .FloorDiv | .mod, .Mod | .pow, .Pow => true
  | _, _ => false
def copIs (o : Cop) (p : CmpOp) : Bool := match o, p with
  | .eq, .Eq | .ne, .NotEq | .lt, .Lt | .le, .LtE | .gt, .Gt | .ge, .GtE | .is_, .Is | .isn, .IsNot | .in_, .In | .nin, .NotIn => true
  | _, _ => false
theorem bopIs_eq {o : Bop} {p : Operator} (h : bopIs o p = true) : p = bopA o := by cases o <;> cases p <;> first | rfl | cases h
theorem copIs_eq {o : Cop} {p : CmpOp} (h : copIs o p = true) : p = copA o := by cases o <;> cases p <;> first | rfl | cases h
theorem mark_of {o : CmpOp} {b : Expr} (h : setE b = false) : behindInMarks o b = false := by cases b <;> first | rfl | cases h
def isTrueT : Tm → Bool
  | .cst (.bl true) => true
  | _ => false
/-- what the text's names are -/
structure NX where
  consts : List (Str × D)
  fns : List (Str × Nat × Nat)
  free : List Str
  bfs : List (Str × Blt)
section
variable (G : NX) (N : List Str)
def glb (sc : Scope) (x : Str) : Bool := decide (sc.names.lookup x = some .globalImplicit) && (decide (x ≠ "__debug__") && decide (x ≠ "__name__"))
def visB (sc : Scope) (x : Str) : Bool := match sc.names.lookup x with
  | some .local => true | some .cell => true | some .free => true | _ => false
def freeB (sc : Scope) (x : Str) : Bool := glb sc x && G.free.any fun y => decide (y = x)
def tysB (sc : Scope) : List Ty → List Expr → Bool
  | [], [] => true
  | t :: ts, .Name x _ :: es => decide (x = tyNm t) && (freeB G sc x && tysB sc ts es)
  | _, _ => false
def isinB (sc : Scope) (ts : List Ty) (e : Expr) : Bool := match e with
  | .Name x _ => (match ts with | [t] => decide (x = tyNm t) && freeB G sc x | _ => false)
  | .Tuple es _ _ => tysB G sc ts es && decide (ts.length < 100)
  | _ => false
def bltB (sc : Scope) (b : Blt) (x : Str) : Bool := (decide (x = bltNm b) && (freeB G sc x && !(match b with | .gcd => true | .lenset => true | _ => false))) ||
  (glb sc x && G.bfs.any fun p => decide (p.1 = x) && (match b, p.2 with | .gcd, .gcd => true | _, _ => false))
def locB (sc ws : Scope) (x : Str) : Bool := match sc.names.lookup x with
  | some .local => true | some .cell => decide (ws.names.lookup x = some .cell) | _ => false
/-- a comprehension's parts -/
def unComp : Expr → Option (Expr × Expr × Expr × List Expr × Scope)
  | .ListComp elt [⟨tg, iter, ifs, 0⟩] scope _ => some (elt, tg, iter, ifs, scope)
  | _ => none
def tupE : Expr → Bool
  | .Tuple _ _ _ => true
  | _ => false
def ownN (own : List Nat) : List (Str × Nat) := own.map fun i => (N.getD i "", i)
mutual
/-- a target: sc the names' kinds as they run, ws as written -/
def cG (sc ws : Scope) : Tg → Expr → Bool
  | .nm i, e => match e with
    | .Name x _ => decide (N[i]? = some x) && locB sc ws x
    | _ => false
  | .tp gs, e => match e with
    | .Tuple es _ _ => cGs sc ws gs es
    | _ => false
def cGs (sc ws : Scope) : Tgs → List Expr → Bool
  | .nil, es => es.isEmpty
  | .cons g gs, es => match es with
    | e :: r => cG sc ws g e && cGs sc ws gs r
    | [] => false
end
def op1Arg (sc : Scope) (o : Op1) (e : Expr) : Option Expr := match o, e with
  | .lenset, .Call (.Name x _) [.Call (.Name y _) [a] [] _] [] _ => if (decide (x = "len") && (decide (y = "set") && (freeB G sc x && (freeB G sc y && !starE a)))) = true then some a else none
  | .lrg, .Call (.Name x _) [.Call (.Name y _) [a] [] _] [] _ => if (decide (x = "list") && (decide (y = "range") && (freeB G sc x && (freeB G sc y && !starE a)))) = true then some a else none
  | .trg, .Call (.Name x _) [.Call (.Name y _) [a] [] _] [] _ => if (decide (x = "tuple") && (decide (y = "range") && (freeB G sc x && (freeB G sc y && !starE a)))) = true then some a else none
  | _, _ => none
def op2Arg (sc : Scope) (o : Op2) (e : Expr) : Option (Expr × Expr) := match o, e with
  | .lrg2, .Call (.Name x _) [.Call (.Name y _) [a, b] [] _] [] _ => if (decide (x = "list") && (decide (y = "range") && (freeB G sc x && (freeB G sc y && (!starE a && !starE b))))) = true then some (a, b) else none
  | .trg2, .Call (.Name x _) [.Call (.Name y _) [a, b] [] _] [] _ => if (decide (x = "tuple") && (decide (y = "range") && (freeB G sc x && (freeB G sc y && (!starE a && !starE b))))) = true then some (a, b) else none
  | _, _ => none
mutual
def cE : Tm → Scope → Expr → Bool
  | .never, _, _ => true
  | .op1 o a, sc, e => match op1Arg G sc o e with
    | some x => cE a sc x
    | none => false
  | .op2 o a b, sc, e => match op2Arg G sc o e with
    | some (x, y) => cE a sc x && cE b sc y
    | none => false
  | .dict0 _, _, e => match e with
    | .Dict ks vs _ => ks.isEmpty && vs.isEmpty
    | _ => false
  | .var i, sc, e => match e with
    | .Name x _ => decide (N[i]? = some x) && (visB sc x && (decide (x ≠ "__debug__") && decide (x ≠ "__classdict__")))
    | _ => false
  | .cst d, sc, e => match e with
    | .Constant c _ _ => cstOk d c
    | .Name x _ => glb sc x && G.consts.any fun p => decide (p.1 = x) && D.eqb p.2 d
    | _ => false
  | .neg a, sc, e => match e with
    | .UnaryOp .USub x _ => cE a sc x
    | _ => false
  | .nt a, sc, e => match e with
    | .UnaryOp .Not x _ => cE a sc x
    | _ => false
  | .bin o a b, sc, e => match e with
    | .BinOp x p y _ => bopIs o p && (cE a sc x && cE b sc y)
    | _ => false
  | .cmp o a b, sc, e => match e with
    | .Compare x [p] [y] _ => copIs o p && (!setE y && (cE a sc x && cE b sc y))
    | _ => false
  | .chain o o' a b c, sc, e => match e with
    | .Compare x [p, p'] [y, z] _ => copIs o p && (copIs o' p' && (!setE y && (!setE z && (cE a sc x && (cE b sc y && cE c sc z)))))
    | _ => false
  | .and a b, sc, e => match e with
    | .BoolOp .And (x :: y :: r) pos => cE a sc x && (match r with
      | [] => cE b sc y
      | z :: r => cE b sc (.BoolOp .And (y :: z :: r) pos))
    | _ => false
  | .or a b, sc, e => match e with
    | .BoolOp .Or (x :: y :: r) pos => cE a sc x && (match r with
      | [] => cE b sc y
      | z :: r => cE b sc (.BoolOp .Or (y :: z :: r) pos))
    | _ => false
  | .ite c a b, sc, e => match e with
    | .IfExp x y z _ => cE c sc x && (cE a sc y && cE b sc z)
    | _ => false
  | .tup es, sc, e => match e with
    | .Tuple xs _ _ => cEs es sc xs
    | _ => false
  | .lst es, sc, e => match e with
    | .List xs _ => cEs es sc xs
    | _ => false
  | .idx a b, sc, e => match e with
    | .Subscript x y _ => !sliceE y && (cE a sc x && cE b sc y)
    | _ => false
  | .slc a lo hi, sc, e => match e with
    | .Subscript x (.Slice l h none _) _ => cE a sc x && ((match l with
      | none => isAbs lo
      | some l => !isAbs lo && cE lo sc l) && (match h with
      | none => isAbs hi
      | some h => !isAbs hi && cE hi sc h))
    | _ => false
  | .call f es, sc, e => match e with
    | .Call (.Name x _) (a :: r) [] _ => glb sc x && ((a :: r).all (fun z => !starE z) && ((G.fns.any fun p => decide (p.1 = x) && Nat.beq p.2.1 f) && cEs es sc (a :: r)))
    | _ => false
  | .blt b es, sc, e => match e with
    | .Call (.Name x _) (a :: r) [] _ => bltB G sc b x && ((a :: r).all (fun z => !starE z) && cRs es sc (a :: r))
    | _ => false
  | .isin a ts, sc, e => match e with
    | .Call (.Name x _) [y, z] [] _ => decide (x = "isinstance") && (freeB G sc x && (!starE y && (isinB G sc ts z && cE a sc y)))
    | _ => false
  | .comp own it g c elt, sc, e => match unComp e with
    | some (x, tg, iter, ifs, scope) => blkC N sc scope (ownN N own) && (g.slots.all (fun i => decide (i ∈ own)) && (!setE iter && (cI it sc tg iter && (cG N (relS scope sc) scope g tg && ((match ifs with
      | [] => isTrueT c
      | [y] => cE c (relS scope sc) y
      | _ => false) && cE elt (relS scope sc) x)))))
    | none => false
  | .meth m a es, sc, e => match e with
    | .Call (.Attribute x nm apos) args [] pos => decide (nm = mthNm m) && ((match m with | .pop => args.isEmpty | _ => !args.isEmpty) && (Nat.beq apos.endLine pos.line && (!(match x with | .Call _ _ _ _ => true | _ => false) && (args.all (fun z => !starE z) && (decide (args.length < 20) && (cE a sc x && cEs es sc args))))))
    | _ => false
def cEs : Es → Scope → List Expr → Bool
  | .nil, _, es => es.isEmpty
  | .cons t ts, sc, es => match es with
    | e :: r => !starE e && (cE t sc e && cEs ts sc r)
    | [] => false
  | .star t ts, sc, es => match es with
    | .Starred e _ :: r => cE t sc e && cEs ts sc r
    | _ => false
  | .plc t ts, sc, es => match es with
    | e :: r => !starE e && (cE t sc e && cEs ts sc r)
    | [] => false
def cRs : Es → Scope → List Expr → Bool
  | .nil, _, es => es.isEmpty
  | .cons t ts, sc, es => match es with
    | e :: r => !starE e && (cE t sc e && cRs ts sc r)
    | [] => false
  | .star _ _, _, _ => false
  | .plc _ _, _, _ => false
def cI : Itm → Scope → Expr → Expr → Bool
  | .seq a, sc, _, e => cE a sc e
  | .rng es, sc, _, e => match e with
    | .Call (.Name x _) args [] _ => decide (x = "range") && (freeB G sc x && (decide (args.length = 1 ∨ args.length = 2) && (args.all (fun z => !starE z) && cRs es sc args)))
    | _ => false
  | .zip a b, sc, tg, e => match e with
    | .Call (.Name x _) [y, z] [] _ => decide (x = "zip") && (freeB G sc x && (tupE tg && (!starE y && (!starE z && (cE a sc y && cE b sc z)))))
    | _ => false
  | .enum a, sc, tg, e => match e with
    | .Call (.Name x _) [y] [] _ => decide (x = "enumerate") && (freeB G sc x && (tupE tg && (!starE y && cE a sc y)))
    | _ => false
end
end
end Q
end

section
set_option Elab.async false
set_option linter.all false
set_option maxRecDepth 100000
set_option maxHeartbeats 4000000
namespace Q
open PySem PySem.Spec PyProof.Rows L2
/-- a context in which the text's names are what they are told to be -/
structure XOk (G : NX) (E : GX) (F : Nat → List D → Md Rv) (N : List Str) (sc ws : Scope) (W : WX) (X : Cx) : Prop where
  hsc : X.env.scope = sc
  hN : X.N = N
  nd : N.Nodup
  calm : X.calm = true
  tk : Takes X W
  po : PassesOwn (model X.prog X.w) X.A X.env X.xe
  room : X.A.units + 65 < cLine
  fn : ∀ x, ws.names.lookup x = some .cell → X.fn x = true
  cst : ∀ x d, (x, d) ∈ G.consts → ∃ u v, X.mg x = some u ∧ RelV v u ∧ ∀ ι H, Rep X.K ι H v d
  free : ∀ x, x ∈ G.free → X.mg x = none
  bfs : ∀ x b, (x, b) ∈ G.bfs → X.mg x = some (bltA b)
  fun_ : ∀ x f n, (x, f, n) ∈ G.fns → ∃ k fa fd ps, FnOk X.prog X.w X.K X.mg X.base (L2.CX X.prog X.w) k fa fd ps (spD E X.K n (F f)) ∧ Room k X.A ∧ X.mg x = some (.ref fa) ∧ PySem.W.keepIn X.K (.ref fa) = true ∧ Binds X.K fd ps [] ∧ ∀ ds M, ds.length ≠ n → F f ds M = .stuck
theorem takes0' {X : Cx} : Takes X W0 := fun _ _ ⟨_, _, _, _, _, _, _, _, _, _, _, _, _, _, _, _, w⟩ => w.elim
theorem XOk.blk {G : NX} {E : GX} {F : Nat → List D → Md Rv} {N : List Str} {sc ws : Scope} {W : WX} {X : Cx} (h : XOk G E F N sc ws W X) (scope : Scope) (s : Shared) (H : Hp) (C : Addr) (cl : List (Str × Addr)) (fp : List Addr) :
    XOk G E F N (relS scope sc) scope W0 (X.blk s H scope (compEnvC scope cl C X.env) fp) where
  hsc := by
    show relS scope X.env.scope = relS scope sc
    rw [h.hsc]
  hN := h.hN
  nd := h.nd
  calm := h.calm
  tk := takes0'
  po := PassesOwn.never
  room := h.room
  fn := fun x e => by
    show (scope.names.lookup x == some NameKind.cell) = true
    rw [e]; rfl
  cst := h.cst
  free := h.free
  bfs := h.bfs
  fun_ := h.fun_
theorem and2 {a b : Bool} (h : (a && b) = true) : a = true ∧ b = true := Bool.and_eq_true_iff.mp h
section
variable {G : NX} {E : GX} {F : Nat → List D → Md Rv} {N : List Str} {sc ws : Scope} {W : WX} {X : Cx}
theorem glb_of {x : Str} (ok : XOk G E F N sc ws W X) (h : glb sc x = true) : Gl X x ∧ (x == ("__debug__" : Str)) = false ∧ x ≠ "__name__" := by
  obtain ⟨h1, h2⟩ := and2 h
  obtain ⟨h2, h3⟩ := and2 h2
  refine ⟨?_, ?_, of_decide_eq_true h3⟩
  · show X.env.scope.names.lookup x = _
    rw [ok.hsc]; exact of_decide_eq_true h1
  · exact beq_eq_false_iff_ne.mpr (of_decide_eq_true h2)
theorem freeB_of {x : Str} (ok : XOk G E F N sc ws W X) (h : freeB G sc x = true) : Gl X x ∧ (x == ("__debug__" : Str)) = false ∧ x ≠ "__name__" ∧ X.mg x = none := by
  obtain ⟨h1, h2⟩ := and2 h
  obtain ⟨a, b, c⟩ := glb_of ok h1
  refine ⟨a, b, c, ok.free x ?_⟩
  obtain ⟨y, hy, e⟩ := List.any_eq_true.mp h2
  rw [← of_decide_eq_true e]; exact hy
theorem vis_of {x : Str} (ok : XOk G E F N sc ws W X) (h : visB sc x = true) : Vis X.env.scope x := by
  unfold visB at h
  show X.env.scope.names.lookup x = _ ∨ X.env.scope.names.lookup x = _ ∨ X.env.scope.names.lookup x = _
  rw [ok.hsc]
  cases e : sc.names.lookup x with
  | none => rw [e] at h; cases h
  | some k =>
    rw [e] at h
    cases k with
    | «local» => exact .inl rfl
    | cell => exact .inr (.inl rfl)
    | free => exact .inr (.inr rfl)
    | _ => cases h
theorem loc_of {sc ws : Scope} {x : Str} (h : locB sc ws x = true) : sc.names.lookup x = some .local ∨ (sc.names.lookup x = some .cell ∧ ws.names.lookup x = some .cell) := by
  unfold locB at h
  cases e : sc.names.lookup x with
  | none => rw [e] at h; cases h
  | some k =>
    rw [e] at h
    cases k with
    | «local» => exact .inl rfl
    | cell => exact .inr ⟨rfl, of_decide_eq_true h⟩
    | _ => cases h
theorem starE_of {e : Expr} {es : List Expr} {env : PySem.Env} (h : starE e = false) : starEach (e :: es) env = (false, eval e env) :: starEach es env := by cases e <;> first | rfl | cases h
theorem plain_of {pos : Pos} {env : PySem.Env} : ∀ {es : List Expr}, es.all (fun z => !starE z) = true → (backTo pos (starEach es env)).any (·.1) = false
  | [], _ => rfl
  | e :: es, h => by
    obtain ⟨h1, h2⟩ := and2 (show (!starE e && es.all fun z => !starE z) = true from h)
    rw [starE_of (by simpa using h1)]
    show (false || (backTo pos (starEach es env)).any (·.1)) = false
    rw [plain_of h2]; rfl
theorem consts_of {x : Str} {d : D} (ok : XOk G E F N sc ws W X) (h : (G.consts.any fun p => decide (p.1 = x) && D.eqb p.2 d) = true) : ∃ u v, X.mg x = some u ∧ RelV v u ∧ ∀ ι H, Rep X.K ι H v d := by
  obtain ⟨p, hp, e⟩ := List.any_eq_true.mp h
  obtain ⟨e1, e2⟩ := and2 e
  refine ok.cst x d ?_
  rw [← of_decide_eq_true e1, ← D.eqb_eq e2]; exact hp
theorem rep_cst {K : PySem.W.Frag} {d : D} {c : Const} (h : cstOk d c = true) {j : Nat} {pos : Pos} : ∃ v, (∀ X : Cx, PE X (.Constant c j pos) (tC v)) ∧ ∀ ι H, Rep K ι H v d := by
  cases c <;> cases d <;> first | (cases h; done) | skip
  · exact ⟨.non, fun X => pe_non, fun _ _ => .non⟩
  · obtain rfl := eq_of_beq (show (_ == _) = true from h)
    exact ⟨.bl _, fun X => pe_bl, fun _ _ => .bl _⟩
  · obtain rfl := of_decide_eq_true (show decide (_ = _) = true from h)
    exact ⟨.int _, fun X => pe_int, fun _ _ => .int _⟩
  · rename_i a b
    have e : a.cps.toList = b := of_decide_eq_true h
    refine ⟨.str a, fun X => pe_str, fun _ _ => ?_⟩
    have : a = ⟨b.toArray⟩ := by rw [← e]
    rw [this]; exact .str b
theorem plainIx_of {e : Expr} (h : sliceE e = false) : PlainIx e := fun o i => by cases e <;> first | rfl | cases h
theorem pe_bool {X : Cx} {e : Expr} {f : Env → Md Rv} (h : DE E X W e f) (he : ∀ whole, isTrue e X.env whole = (do let v ← whole; standAt e.pos; holding [v] (truthy v))) : DE E X W e f ∧ DT E X W e (asBool f) := ⟨h, dt_val h he⟩

/-! ### targets -/
mutual
theorem cG_ok (ok : XOk G E F N sc ws W X) : ∀ (g : Tg) (e : Expr), cG N sc ws g e = true → PG X e (liftG X.K g)
  | .nm i, e, h => by
    cases e with
    | Name x pos =>
      obtain ⟨h1, h2⟩ := and2 h
      have h1 := of_decide_eq_true h1
      have l1 := loc_of h2
      refine dg_name (by rw [ok.hN]; exact (List.getElem?_eq_some_iff.mp h1).1) (pg_name (by rw [ok.hN]; exact ok.nd) (by rw [ok.hN]; exact h1) (by show X.env.scope.names.lookup x = _ ∨ X.env.scope.names.lookup x = _; rw [ok.hsc]; exact l1.imp id (·.1)) ?_)
      rcases l1 with l1 | l1
      · exact .inr (by rw [ok.hsc]; exact l1)
      · exact .inl (ok.fn x l1.2)
    | _ => cases h
  | .tp gs, e, h => by
    cases e with
    | Tuple es k pos =>
      have hs := cGs_ok ok gs es h
      exact dg_tup ok.calm hs.1 hs.2.1 hs.2.2
    | _ => cases h
theorem cGs_ok (ok : XOk G E F N sc ws W X) : ∀ (gs : Tgs) (es : List Expr), cGs N sc ws gs es = true → PGs X es (liftGs X.K gs) ∧ (assignEach es X.env).length = gs.count ∧ (assignEach es X.env).findIdx? (·.1) = none
  | .nil, es, h => by
    cases es with
    | nil => exact ⟨dgs_nil, rfl, rfl⟩
    | cons _ _ => cases h
  | .cons g gs, es, h => by
    cases es with
    | nil => cases h
    | cons e r =>
      obtain ⟨h1, h2⟩ := and2 h
      obtain ⟨p, q1, q2⟩ := cGs_ok ok gs r h2
      have pe := cG_ok ok g e h1
      have key : assignEach (e :: r) X.env = (false, assign e X.env) :: assignEach r X.env := by
        cases e with
        | Starred _ _ => cases g <;> cases h1
        | _ => rfl
      refine ⟨dgs_cons pe p (by rw [key]; rfl), by rw [key]; exact congrArg (· + 1) q1, ?_⟩
      rw [key, List.findIdx?_cons]
      simp only
      rw [if_neg (by decide), q2]; rfl
end
end
end Q
end

section
set_option Elab.async false
set_option linter.all false
set_option maxRecDepth 100000
set_option maxHeartbeats 8000000
namespace Q
open PySem PySem.Spec PyProof.Rows L2
section
variable {G : NX} {E : GX} {F : Nat → List D → Md Rv} {N : List Str} {sc ws : Scope} {W : WX} {X : Cx}
theorem not_t {b : Bool} (h : (!b) = true) : b = false := by cases b <;> first | rfl | cases h
theorem boot_of (b : Blt) (h : (match b with | .gcd => true | .lenset => true | _ => false) = false) : bootBuiltins (bltNm b) = some (bltA b) := by
  cases b <;> first | rfl | (cases h; done) | (decide +kernel)
/-- a built-in's call, by the value that its name has -/
theorem de_blt {b : Blt} {x : Str} {p pos : Pos} {a : Expr} {r : List Expr} {t : Env → Md (List Rv)} (ok : XOk G E F N sc ws W X) (h : bltB G sc b x = true) (hs : (a :: r).all (fun z => !starE z) = true) (ha : DR E X W (a :: r) t) :
    DE E X W (.Call (.Name x p) (a :: r) [] pos) (sBlt b t) := by
  obtain ⟨s1, s2⟩ := and2 (show (!starE a && r.all fun z => !starE z) = true from hs)
  have he : starEach (a :: r) X.env = (false, eval a X.env) :: starEach r X.env := starE_of (not_t s1)
  have hpl : (backTo pos (starEach r X.env)).any (·.1) = false := plain_of s2
  have hc := @call_bi X ok.calm b
  refine PE.weak (t := tCB (rBi X.K b) (liftR E X.K W t)) ?_ fun σ H Q q => blt_weak q
  rcases Bool.or_eq_true_iff.mp h with h | h
  · obtain ⟨h1, h2⟩ := and2 h
    obtain ⟨h2, h3⟩ := and2 h2
    have h1 := of_decide_eq_true h1
    obtain ⟨g1, g2, g3, g4⟩ := freeB_of ok h2
    have hv := boot_of b (not_t h3)
    rw [← h1] at hv
    cases b <;> first
      | (cases (not_t h3); done)
      | exact pe_callB hc g1 g4 hv ha g3 g2 he hpl
      | exact pe_callTy hc g1 g4 hv ha g3 g2 he hpl
  · obtain ⟨h1, h2⟩ := and2 h
    obtain ⟨g1, g2, g3⟩ := glb_of ok h1
    obtain ⟨q, hq, h2⟩ := List.any_eq_true.mp h2
    obtain ⟨h4, h3⟩ := and2 h2
    have h4 := of_decide_eq_true h4
    obtain ⟨y, b'⟩ := q
    cases b' <;> cases b <;> first | (cases h3; done) | skip
    have hm := ok.bfs _ _ hq
    rw [show y = x from h4] at hm
    exact pe_callBfun hc g1 hm ha g2 he hpl
theorem de_call {f : Nat} {x : Str} {p pos : Pos} {a : Expr} {r : List Expr} {t : Env → Md (List D)} (ok : XOk G E F N sc ws W X) (hg : glb sc x = true) (hs : (a :: r).all (fun z => !starE z) = true) (hf : (G.fns.any fun p => decide (p.1 = x) && Nat.beq p.2.1 f) = true) (ha : DA E X W (a :: r) t) :
    DE E X W (.Call (.Name x p) (a :: r) [] pos) (sCall (F f) t) := by
  obtain ⟨s1, s2⟩ := and2 (show (!starE a && r.all fun z => !starE z) = true from hs)
  have he : starEach (a :: r) X.env = (false, eval a X.env) :: starEach r X.env := starE_of (not_t s1)
  have hpl : (backTo pos (starEach r X.env)).any (·.1) = false := plain_of s2
  obtain ⟨g1, g2, g3⟩ := glb_of ok hg
  obtain ⟨q, hq, hf⟩ := List.any_eq_true.mp hf
  obtain ⟨h1, h2⟩ := and2 hf
  have h1 := of_decide_eq_true h1
  have h2 := Nat.eq_of_beq_eq_true h2
  obtain ⟨y, f', n⟩ := q
  obtain rfl : y = x := h1
  obtain rfl : f' = f := h2
  obtain ⟨k, fa, fd, ps, Fn, hr, hm, hk, hb, hn⟩ := ok.fun_ _ _ _ hq
  exact (pe_callS Fn hr g1 hm hk hb (fun σ => passAt ok.tk σ) ha g2 he hpl).weak fun σ H Q q => call_weak hn q
def sDict0 (t : Bool) : Env → Md Rv := fun _ => ret (.m t [] [])
theorem dict0_weak {t : Bool} {o : HO} (ho : ∀ (K : PySem.W.Frag) (ι : Pl) (H : Hp) (a : Addr), H a = some o → RepO K ι H a (.dct t [] [])) {K : PySem.W.Frag} {σ : L2.St} {H : Hp} {Q : VK} (h : liftE E K W (sDict0 t) σ H Q) : ∀ p, H p = none → Q (.ref p) (upd H p o) := fun p hp => by
  obtain ⟨ι, env, M, rs, S, go⟩ := h
  exact go ι (.ref p) _ (Ext.new hp) ⟨p, rfl, hp, fun z => S.ne z hp, ho K ι _ p upd_same⟩ (S.new hp)
theorem de_dict0 {t : Bool} {pos : Pos} : DE E X W (.Dict [] [] pos) (sDict0 t) := by
  cases t with
  | false => exact pe_dnewK.weak fun σ H Q q => dict0_weak (t := false) (fun K ι H a h => ⟨[], h, rfl, .nil⟩) q
  | true => exact pe_dnewT.weak fun σ H Q q => dict0_weak (t := true) (fun K ι H a h => ⟨[], h, rfl, .nil⟩) q
def sIsin (f : Env → Md Rv) (ts : List Ty) : Env → Md Rv := fun env => bnd (f env) fun x => bnd (opt fun M => isTys M x ts) fun b => ret (.d (.bl b))
theorem name_some {M : Ar} {x : Rv} {t : Ty} {b : Bool} (h : isTyM M x t = some b) : ∃ n, nameR M x = some n := by
  cases x with
  | l _ => exact ⟨_, rfl⟩
  | m _ _ _ => exact ⟨_, rfl⟩
  | d d =>
    cases d with
    | ref n =>
      have h : (match M[n]? with | some (.lst _) => some (decide (t = Ty.list)) | some (.dct _ _ _) => some (decide (t = Ty.dict)) | _ => none) = some b := h
      show ∃ k, (match M[n]? with | some (.lst _) => some "list" | some (.dct _ _ _) => some "dict" | _ => none) = some k
      cases e : M[n]? with
      | none => rw [e] at h; cases h
      | some o => cases o <;> first | exact ⟨_, rfl⟩ | (rw [e] at h; cases h)
    | _ => exact ⟨_, rfl⟩
theorem isTys_cons {M : Ar} {x : Rv} {t : Ty} {ts : List Ty} {b : Bool} (h : isTys M x (t :: ts) = some b) : (isTyM M x t = some true ∧ b = true) ∨ (isTyM M x t = some false ∧ isTys M x ts = some b) := by
  have h : (match isTyM M x t with | some true => some true | some false => isTys M x ts | none => none) = some b := h
  cases e : isTyM M x t with
  | none => rw [e] at h; cases h
  | some k =>
    rw [e] at h
    cases k with
    | true => cases h; exact .inl ⟨rfl, rfl⟩
    | false => exact .inr ⟨rfl, h⟩
theorem kitAny_of {K : PySem.W.Frag} {M : Ar} {x : Rv} {n : String} (hn : nameR M x = some n) : ∀ {ts : List Ty} {b : Bool}, isTys M x ts = some b → PySem.W.kitAny K (.type n) (ts.map fun t => Value.type (tyA t)) = some b
  | [], b, h => by cases h; rfl
  | t :: ts, b, h => by
    rcases isTys_cons h with ⟨h1, rfl⟩ | ⟨h1, h2⟩
    · exact kitAny_cons (r := true) (kit_ty (isTy_kit hn h1)) (fun z => nomatch z) fun _ => rfl
    · exact kitAny_cons (kit_ty (isTy_kit hn h1)) (fun _ => kitAny_of hn h2) fun z => nomatch z
theorem tys_pa (ok : XOk G E F N sc ws W X) : ∀ {ts : List Ty} {es : List Expr}, tysB G sc ts es = true → ∃ t : TA, PA X es t ∧ (∀ σ H Q, Q (ts.map fun t => V.ty (tyA t)) H → t σ H Q)
  | [], [], _ => ⟨_, pa_nil, fun σ H Q q => q⟩
  | [], _ :: _, h => by cases h
  | t :: ts, [], h => by cases h
  | t :: ts, e :: es, h => by
    cases e with
    | Name x pos =>
      obtain ⟨h1, h2⟩ := and2 h
      obtain ⟨h2, h3⟩ := and2 h2
      obtain ⟨g1, g2, g3, g4⟩ := freeB_of ok h2
      obtain ⟨u, p, q⟩ := tys_pa ok h3
      have hv : bootBuiltins x = some (.type (tyA t)) := by
        rw [of_decide_eq_true h1]
        cases t <;> first | rfl | decide +kernel
      have pe : PE X (.Name x pos) (tC (.ty (tyA t))) := pe_bltn g1 g4 hv rfl g3 g2
      exact ⟨_, pa_cons pe p (by rfl), fun σ H Q r => q σ H _ r⟩
    | _ => cases h
theorem isin_run {f : Env → Md Rv} {x : Str} {y z : Expr} {ts : List Ty} {p pos : Pos} (ok : XOk G E F N sc ws W X) (hx : x = "isinstance") (hf : freeB G sc x = true) (hy : starE y = false) (hz : isinB G sc ts z = true) (ha : DE E X W y f) :
    DE E X W (.Call (.Name x p) [y, z] [] pos) (sIsin f ts) := by
  obtain ⟨g1, g2, g3, g4⟩ := freeB_of ok hf
  have hv : bootBuiltins x = some (.builtin "isinstance") := by rw [hx]; first | rfl | decide +kernel
  unfold isinB at hz
  cases z with
  | Name x' p' =>
    match ts, hz with
    | [t], hz =>
      obtain ⟨h1, h2⟩ := and2 hz
      obtain ⟨k1, k2, k3, k4⟩ := freeB_of ok h2
      have hv' : bootBuiltins x' = some (.type (tyA t)) := by
        rw [of_decide_eq_true h1]
        cases t <;> first | rfl | decide +kernel
      have pe : PE X (.Name x' p') (tC (.ty (tyA t))) := pe_bltn k1 k4 hv' rfl k3 k2
      have he : starEach [y, .Name x' p'] X.env = (false, eval y X.env) :: starEach [.Name x' p'] X.env := starE_of hy
      refine (pe_callB call_isi g1 g4 hv (pa_cons ha (pa_cons pe pa_nil) he) g3 g2 he (by rfl)).weak fun σ H Q ⟨ι, env, M, rs, S, go⟩ => ⟨ι, env, M, rs, S, go.bnd.mono fun r M1 h1 ι1 v1 H1 e1 rr S1 => ?_⟩
      obtain ⟨b, e, q⟩ := h1.bnd.opt
      rcases isTys_cons e with ⟨h1, rfl⟩ | ⟨h1, h2⟩
      · obtain ⟨n, hn⟩ := name_some h1
        exact ⟨v1, _, _, _, true, rfl, .ty _, tyX_of S1 rr hn, kit_ty (isTy_kit hn h1), GoX.ret q ι1 _ H1 e1 (.bl true) S1⟩
      · cases h2
        obtain ⟨n, hn⟩ := name_some h1
        exact ⟨v1, _, _, _, false, rfl, .ty _, tyX_of S1 rr hn, kit_ty (isTy_kit hn h1), GoX.ret q ι1 _ H1 e1 (.bl false) S1⟩
    | [], hz => cases hz
    | _ :: _ :: _, hz => cases hz
  | Tuple es k p' =>
    obtain ⟨hz, hl⟩ := and2 hz
    have hl := of_decide_eq_true hl
    obtain ⟨t, pt, qt⟩ := tys_pa ok hz
    have he : starEach [y, .Tuple es k p'] X.env = (false, eval y X.env) :: starEach [.Tuple es k p'] X.env := starE_of hy
    refine (pe_callB call_isiT g1 g4 hv (pa_cons ha (pa_cons (pe_tup pt) pa_nil) he) g3 g2 he (by rfl)).weak fun σ H Q ⟨ι, env, M, rs, S, go⟩ => ⟨ι, env, M, rs, S, go.bnd.mono fun r M1 h1 ι1 v1 H1 e1 rr S1 => ?_⟩
    obtain ⟨b, e, q⟩ := h1.bnd.opt
    refine qt σ H1 _ ⟨by rw [List.length_map]; exact Nat.le_trans (Nat.le_of_lt hl) (by show 100 ≤ sizeLine; decide), fun T hT => ?_⟩
    have ex : Ext X.K ι1 H1 ι1 (upd H1 T (.tup (ts.map fun t => V.ty (tyA t)))) := Ext.new hT
    have S2 : Sim X.K ι1 (upd H1 T (.tup (ts.map fun t => V.ty (tyA t)))) M1 := S1.new hT
    have pr : ∀ ts : List Ty, Paired ClsV (ts.map fun t => V.ty (tyA t)) (ts.map fun t => Value.type (tyA t)) := fun ts => by
      induction ts with
      | nil => exact .nil
      | cons t ts ih => exact .cons (.ty _) ih
    have fin := GoX.ret q ι1 (.bl b) _ (e1.trans ex) (.bl b) S2
    cases ts with
    | nil =>
      cases e
      cases r with
      | l _ => exact ⟨v1, T, _, _, _, false, rfl, upd_same, pr [], tyX_of S2 (rr.ext ex) rfl, rfl, fin⟩
      | m _ _ _ => exact ⟨v1, T, _, _, _, false, rfl, upd_same, pr [], tyX_of S2 (rr.ext ex) rfl, rfl, fin⟩
      | d d =>
        cases d with
        | ref n =>
          have : ∃ nm, nameR M1 (.d (.ref n)) = some nm := by
            cases (show Rep X.K ι1 H1 v1 (.ref n) from rr) with
            | ref h1 =>
              have hn : n < M1.length := by rw [← S1.len]; exact (List.getElem?_eq_some_iff.mp h1).1
              show ∃ k, (match M1[n]? with | some (.lst _) => some "list" | some (.dct _ _ _) => some "dict" | _ => none) = some k
              rw [List.getElem?_eq_getElem hn]
              have ro := S1.ob n _ M1[n] h1 (List.getElem?_eq_getElem hn)
              cases hM : M1[n] <;> first | exact ⟨_, rfl⟩ | (rw [hM] at ro; exact False.elim ro)
          obtain ⟨nm, hn⟩ := this
          exact ⟨v1, T, _, _, _, false, rfl, upd_same, pr [], tyX_of S2 (rr.ext ex) hn, rfl, fin⟩
        | _ => exact ⟨v1, T, _, _, _, false, rfl, upd_same, pr [], tyX_of S2 (rr.ext ex) rfl, rfl, fin⟩
    | cons t ts =>
      have : ∃ n, nameR M1 r = some n := by
        rcases isTys_cons e with ⟨h1, _⟩ | ⟨h1, _⟩
        · exact name_some h1
        · exact name_some h1
      obtain ⟨n, hn⟩ := this
      exact ⟨v1, T, _, _, _, b, rfl, upd_same, pr (t :: ts), tyX_of S2 (rr.ext ex) hn, kitAny_of hn e, fin⟩
  | _ => cases hz
def sMeth (m : Mth) (f : Env → Md Rv) (t : Env → Md (List D)) : Env → Md Rv := fun env => bnd (bnd (f env) settle) fun x => bnd (isRefM x) fun _ => bnd (t env) fun xs => method m x xs
theorem meth_weak {m : Mth} {f : Env → Md Rv} {t : Env → Md (List D)} {σ : L2.St} {H : Hp} {Q : VK} (h : liftE E X.K W (sMeth m f t) σ H Q) : tBM X.K "list" (rMt X.K m) (liftE E X.K W f) (liftA E X.K W t) σ H Q := by
  obtain ⟨ι, env, M, rs, S, go⟩ := h
  refine ⟨ι, env, M, rs, S, go.bnd.bnd.mono fun r M1 h1 ι1 v1 H1 e1 rr S1 => ?_⟩
  obtain ⟨d, ι2, M2, h2, e2, rd, S2⟩ := settle_go h1 e1 rr S1
  have isref : ∃ n es, d = .ref n ∧ lstAt M2 n = some es ∧ GoX E X.K W σ ι H (bnd (t env) (fun xs => method m d xs) M2) (FinE X.K ι H Q) := by
    have h2 := h2
    unfold bnd isRefM at h2
    cases d with
    | ref n =>
      cases el : lstAt M2 n with
      | none => simp only [el] at h2; exact False.elim h2
      | some es => simp only [el] at h2; exact ⟨n, es, rfl, el, h2⟩
    | _ => exact False.elim h2
  obtain ⟨n, es, rfl, el, h2⟩ := isref
  have h2 := GoX.bnd h2
  refine ⟨?_, ι2, env, M2, rs.ext e2, S2, (h2.later e2).mono fun ds M3 h3 ι3 vs H3 e3 rds S3 => ?_⟩
  · cases rd with
    | ref hr =>
      obtain ⟨vs, g1, _⟩ := S2.ob n _ _ hr (lstAt_some el)
      exact Or.inl ⟨rfl, _, Or.inl (Or.inl g1)⟩
  · cases em : method m (.ref n) ds M3 with
    | ok r M4 =>
      rw [em] at h3
      exact ⟨ι3, M3, .ref n, ds, r, M4, rd.ext e3, rds, S3, em, fun H' v e4 rr4 S4 => FinE.go h3 (e2.trans e3) e4 rr4 S4⟩
    | exc c p M4 =>
      exfalso
      unfold method at em
      simp only at em
      split at em
      · split at em
        · split at em <;> cases em
        · split at em <;> cases em
        · cases em
      · cases em
    | stuck => rw [em] at h3; exact False.elim h3
end
end Q
end

section
set_option Elab.async false
set_option linter.all false
set_option maxRecDepth 100000
set_option maxHeartbeats 8000000
/-! What a shape of the text says of one value, of two. -/
namespace Q
open PySem PySem.Spec PyProof.Rows L2
section
variable {G : NX} {E : GX} {F : Nat → List D → Md Rv} {N : List Str} {sc ws : Scope} {W : WX} {X : Cx}
def toKey : D → Key
  | .int i => .inl i
  | .str x => .inr ⟨x.toArray⟩
  | _ => .inl 0
theorem toKey_eq {a b : D} (ha : keyable a = true) (hb : keyable b = true) : decide (toKey a = toKey b) = D.eqb a b := by
  cases a with
  | int i =>
    cases b with
    | int j => show decide (Sum.inl i = Sum.inl j) = decide (i = j); exact decide_eq_decide.mpr ⟨fun z => Sum.inl.inj z, fun z => by rw [z]⟩
    | str y => rfl
    | _ => cases hb
  | str x =>
    cases b with
    | int j => rfl
    | str y =>
      show decide (Sum.inr (⟨x.toArray⟩ : Str) = Sum.inr ⟨y.toArray⟩) = decide (x = y)
      refine decide_eq_decide.mpr ⟨fun z => ?_, fun z => by rw [z]⟩
      have := congrArg (fun s : Str => s.cps.toList) (Sum.inr.inj z)
      exact this
    | _ => cases hb
  | _ => cases ha
theorem toKey_v {K : PySem.W.Frag} {ι : Pl} {H : Hp} {v : V} {d : D} (h : Rep K ι H v d) (hd : keyable d = true) : v = keyV (toKey d) := by
  cases d with
  | int i => exact Rep.int_of h
  | str x => exact Rep.str_of h
  | _ => cases hd
theorem toKeys_v {K : PySem.W.Frag} {ι : Pl} {H : Hp} : ∀ {vs : List V} {ds : List D}, Reps K ι H vs ds → ds.all keyable = true → vs = (ds.map toKey).map keyV
  | _, _, .nil, _ => rfl
  | _, _, .cons h r, q => by
    obtain ⟨q1, q2⟩ := and2 (show (keyable _ && List.all _ keyable) = true from q)
    rw [List.map_cons, List.map_cons, ← toKey_v h q1, ← toKeys_v r q2]
theorem inn_map : ∀ {acc : List D} {d : D}, acc.all keyable = true → keyable d = true → inn (acc.map toKey) (toKey d) = inD acc d
  | [], d, _, _ => rfl
  | a :: acc, d, h, hd => by
    obtain ⟨q1, q2⟩ := and2 (show (keyable a && acc.all keyable) = true from h)
    show (decide (toKey a = toKey d) || inn (acc.map toKey) (toKey d)) = (D.eqb a d || inD acc d)
    rw [toKey_eq q1 hd, inn_map q2 hd]
theorem met_map : ∀ {ds acc : List D}, acc.all keyable = true → ds.all keyable = true → (ds.map toKey).foldl (fun acc k => if inn acc k = true then acc else acc ++ [k]) (acc.map toKey) = (ds.foldl (fun acc d => if inD acc d = true then acc else acc ++ [d]) acc).map toKey
  | [], acc, _, _ => rfl
  | d :: ds, acc, h, hd => by
    obtain ⟨q1, q2⟩ := and2 (show (keyable d && ds.all keyable) = true from hd)
    show (ds.map toKey).foldl _ (if inn (acc.map toKey) (toKey d) = true then acc.map toKey else acc.map toKey ++ [toKey d]) = (ds.foldl _ (if inD acc d = true then acc else acc ++ [d])).map toKey
    rw [inn_map h q1]
    by_cases c : inD acc d = true
    · rw [if_pos c, if_pos c]; exact met_map h q2
    · rw [if_neg c, if_neg c]
      have := met_map (ds := ds) (acc := acc ++ [d]) (by rw [List.all_append, h]; show (true && (keyable d && true)) = true; rw [q1]; rfl) q2
      rw [← this, List.map_append]; rfl
theorem met_len_eq {ds : List D} (h : ds.all keyable = true) : (met (ds.map toKey)).length = (metD ds).length := by
  show ((ds.map toKey).foldl _ (([] : List D).map toKey)).length = _
  rw [met_map rfl h, List.length_map]; rfl
def sOp1 (o : Op1) (f : Env → Md Rv) : Env → Md Rv := fun env => bnd (f env) fun x => opt (op1 o x)
def sOp2 (o : Op2) (f g : Env → Md Rv) : Env → Md Rv := fun env => bnd (f env) fun x => bnd (g env) fun y => opt (op2 o x y)
theorem reps_rg {K : PySem.W.Frag} {ι : Pl} {H : Hp} : ∀ (n : Nat) (lo : Int), Reps K ι H ((List.range n).map fun i => V.int (lo + (i : Nat))) (rangeL lo n)
  | 0, _ => .nil
  | n + 1, lo => by
    rw [List.range_succ_eq_map, List.map_cons, List.map_map]
    refine .cons (by rw [show lo + ((0 : Nat) : Int) = lo from Int.add_zero lo]; exact .int lo) ?_
    have e : (List.range n).map ((fun i : Nat => V.int (lo + (i : Int))) ∘ Nat.succ) = (List.range n).map fun i : Nat => V.int (lo + 1 + (i : Int)) := by
      refine List.map_congr_left fun i _ => ?_
      show V.int (lo + ((i + 1 : Nat) : Int)) = V.int (lo + 1 + (i : Int))
      rw [show lo + ((i + 1 : Nat) : Int) = lo + 1 + (i : Int) from by omega]
    rw [e]
    exact reps_rg n (lo + 1)
theorem lrange_of {i j : Int} {ds : List D} (h : lrange i j = some ds) : RgOk i j ∧ ds = rangeL i (j - i).toNat := by
  unfold lrange at h
  split at h
  · rename_i hc
    obtain ⟨h1, h2⟩ := and2 hc
    obtain ⟨h2, h3⟩ := and2 h2
    have h3 := of_decide_eq_true h3
    unfold small62 at h1 h2
    obtain ⟨a1, a2⟩ := and2 h1
    obtain ⟨b1, b2⟩ := and2 h2
    cases h
    refine ⟨⟨of_decide_eq_true a1, of_decide_eq_true a2, of_decide_eq_true b1, of_decide_eq_true b2, ?_⟩, rfl⟩
    have : line ≤ 2 ^ 24 := by decide
    omega
  · cases h
/-- a new list of whole numbers, one behind the other -/
theorem rg_new {K : PySem.W.Frag} {ι ι1 : Pl} {H H1 : Hp} {M : Ar} {Q : VK} {i j : Int} (e1 : Ext K ι H ι1 H1) (S1 : Sim K ι1 H1 M) (q : FinE K ι H Q (.l (rangeL i (j - i).toNat)) M) : ∀ p, H1 p = none → Q (.ref p) (upd H1 p (.lst (rgV i j))) := fun p hp =>
  q ι1 _ _ (e1.trans (Ext.new hp)) ⟨p, _, rfl, upd_same, e1.noneB hp, fun z => S1.ne z hp, reps_rg _ _⟩ (S1.new hp)
theorem rg_newT {K : PySem.W.Frag} {ι ι1 : Pl} {H H1 : Hp} {M : Ar} {Q : VK} {i j : Int} (e1 : Ext K ι H ι1 H1) (S1 : Sim K ι1 H1 M) (q : FinE K ι H Q (.d (.tup (rangeL i (j - i).toNat))) M) : ∀ p, H1 p = none → Q (.ref p) (upd H1 p (.tup (rgV i j))) := fun p hp =>
  q ι1 _ _ (e1.trans (Ext.new hp)) (Rep.tup (.inl (.inl upd_same)) (reps_rg _ _)) (S1.new hp)
theorem and5 {a b c d e : Bool} (h : (a && (b && (c && (d && e)))) = true) : a = true ∧ b = true ∧ c = true ∧ d = true ∧ e = true := by
  cases a <;> cases b <;> cases c <;> cases d <;> cases e <;> first | exact ⟨rfl, rfl, rfl, rfl, rfl⟩ | cases h
theorem if_get {α : Type} {c : Bool} {x y : α} (h : (if c = true then some x else none) = some y) : c = true ∧ x = y := by
  by_cases k : c = true
  · rw [if_pos k] at h; exact ⟨k, Option.some.inj h⟩
  · rw [if_neg k] at h; cases h
theorem op1_shape {o : Op1} {e a : Expr} (h : op1Arg G sc o e = some a) : ∃ x p y p2 q pos, e = .Call (.Name x p) [.Call (.Name y p2) [a] [] q] [] pos ∧ freeB G sc x = true ∧ freeB G sc y = true ∧ starE a = false ∧ (match o with
    | .lenset => x = "len" ∧ y = "set"
    | .lrg => x = "list" ∧ y = "range"
    | .trg => x = "tuple" ∧ y = "range") := by
  unfold op1Arg at h
  split at h
  all_goals first
    | (obtain ⟨c, rfl⟩ := if_get h
       obtain ⟨c1, c2, c3, c4, c5⟩ := and5 c
       exact ⟨_, _, _, _, _, _, rfl, c3, c4, not_t c5, of_decide_eq_true c1, of_decide_eq_true c2⟩)
    | cases h
theorem op2_shape {o : Op2} {e a b : Expr} (h : op2Arg G sc o e = some (a, b)) : ∃ x p y p2 q pos, e = .Call (.Name x p) [.Call (.Name y p2) [a, b] [] q] [] pos ∧ freeB G sc x = true ∧ freeB G sc y = true ∧ starE a = false ∧ starE b = false ∧ (match o with
    | .lrg2 => x = "list" ∧ y = "range"
    | .trg2 => x = "tuple" ∧ y = "range") := by
  unfold op2Arg at h
  split at h
  all_goals first
    | (obtain ⟨c, e⟩ := if_get h
       cases e
       obtain ⟨c1, c2, c3, c4, c5⟩ := and5 c
       obtain ⟨c5, c6⟩ := and2 c5
       exact ⟨_, _, _, _, _, _, rfl, c3, c4, not_t c5, not_t c6, of_decide_eq_true c1, of_decide_eq_true c2⟩)
    | cases h
abbrev PlainE (X : Cx) (e : Expr) : Prop := (∀ whole, isTrue e X.env whole = (do let v ← whole; standAt e.pos; holding [v] (truthy v))) ∧ ∀ o vs p, e ≠ .BoolOp o vs p
theorem op1_plain {o : Op1} {e a : Expr} (h : op1Arg G sc o e = some a) : PlainE X e := by
  obtain ⟨x, p, y, p2, q, pos, rfl, _⟩ := op1_shape h
  exact ⟨fun _ => rfl, fun _ _ _ z => nomatch z⟩
theorem op2_plain {o : Op2} {e a b : Expr} (h : op2Arg G sc o e = some (a, b)) : PlainE X e := by
  obtain ⟨x, p, y, p2, q, pos, rfl, _⟩ := op2_shape h
  exact ⟨fun _ => rfl, fun _ _ _ z => nomatch z⟩
theorem de_op1 {o : Op1} {e a : Expr} {f : Env → Md Rv} (ok : XOk G E F N sc ws W X) (h : op1Arg G sc o e = some a) (ha : DE E X W a f) : DE E X W e (sOp1 o f) := by
  obtain ⟨x, p, y, p2, q, pos, rfl, h1, h2, h3, h4⟩ := op1_shape h
  obtain ⟨g1, g2, g3, g4⟩ := freeB_of ok h1
  obtain ⟨k1, k2, k3, k4⟩ := freeB_of ok h2
  have na : starEach [a] X.env = (false, eval a X.env) :: starEach [] X.env := starE_of h3
  cases o with
  | lenset =>
    obtain ⟨rfl, rfl⟩ := h4
    refine (pe_lenKeys g1 g4 k1 k4 ha ok.calm na).weak fun σ H Q ⟨ι, env, M, rs, S, go⟩ => ⟨ι, env, M, rs, S, go.bnd.mono fun r1 M1 h1 ι1 v1 H1 e1 rr1 S1 => ?_⟩
    obtain ⟨r, e, q⟩ := h1.opt
    have e : (match asS M1 r1 with
      | some ds => if (ds.all keyable && decide (ds.length ≤ 4000)) = true then some (Rv.d (.int ((metD ds).length : Nat))) else none
      | none => none) = some r := e
    cases ea : asS M1 r1 with
    | none => rw [ea] at e; cases e
    | some ds =>
      rw [ea] at e
      obtain ⟨c, rfl⟩ := if_get e
      obtain ⟨c1, c2⟩ := and2 c
      obtain ⟨l, vs, rfl, sq, rp⟩ := asS_of S1 rr1 ea
      have ev := toKeys_v rp c1
      refine ⟨l, ds.map toKey, rfl, by rw [← ev]; exact sq, by rw [List.length_map]; exact of_decide_eq_true c2, ?_⟩
      rw [met_len_eq c1]
      exact q ι1 _ H1 e1 (.int _) S1
  | lrg =>
    obtain ⟨rfl, rfl⟩ := h4
    refine (pe_listRg ok.calm g1 g4 (prg_1 k1 k4 ha na)).weak fun σ H Q ⟨ι, env, M, rs, S, go⟩ => ⟨ι, env, M, rs, S, go.bnd.mono fun r1 M1 h1 ι1 v1 H1 e1 rr1 S1 => ?_⟩
    obtain ⟨r, e, q⟩ := h1.opt
    unfold op1 at e
    simp only at e
    split at e
    · obtain ⟨ds, e2, rfl⟩ := Option.map_eq_some_iff.mp e
      obtain ⟨k, rfl⟩ := lrange_of e2
      exact ⟨_, Rep.int_of rr1, k, rg_new e1 S1 q⟩
    · cases e
  | trg =>
    obtain ⟨rfl, rfl⟩ := h4
    refine (pe_tupRg ok.calm g1 g4 (prg_1 k1 k4 ha na)).weak fun σ H Q ⟨ι, env, M, rs, S, go⟩ => ⟨ι, env, M, rs, S, go.bnd.mono fun r1 M1 h1 ι1 v1 H1 e1 rr1 S1 => ?_⟩
    obtain ⟨r, e, q⟩ := h1.opt
    unfold op1 at e
    simp only at e
    split at e
    · obtain ⟨ds, e2, rfl⟩ := Option.map_eq_some_iff.mp e
      obtain ⟨k, rfl⟩ := lrange_of e2
      exact ⟨_, Rep.int_of rr1, k, rg_newT e1 S1 q⟩
    · cases e
theorem de_op2 {o : Op2} {e a b : Expr} {f g : Env → Md Rv} (ok : XOk G E F N sc ws W X) (h : op2Arg G sc o e = some (a, b)) (ha : DE E X W a f) (hb : DE E X W b g) : DE E X W e (sOp2 o f g) := by
  obtain ⟨x, p, y, p2, q, pos, rfl, h1, h2, h3, h3', h4⟩ := op2_shape h
  obtain ⟨g1, g2, g3, g4⟩ := freeB_of ok h1
  obtain ⟨k1, k2, k3, k4⟩ := freeB_of ok h2
  have na : starEach [a, b] X.env = (false, eval a X.env) :: starEach [b] X.env := starE_of h3
  have nb : starEach [b] X.env = (false, eval b X.env) :: starEach [] X.env := starE_of h3'
  have hp : ∀ pos, (backTo pos (starEach [b] X.env)).any (·.1) = false := fun pos => by rw [nb]; rfl
  cases o with
  | lrg2 =>
    obtain ⟨rfl, rfl⟩ := h4
    refine (pe_listRg ok.calm g1 g4 (prg_2 k1 k4 ha hb na nb (hp _))).weak fun σ H Q ⟨ι, env, M, rs, S, go⟩ => ⟨ι, env, M, rs, S, go.bnd.mono fun r1 M1 h1 ι1 v1 H1 e1 rr1 S1 => ⟨ι1, env, M1, rs.ext e1, S1, (h1.bnd.later e1).mono fun r2 M2 h2 ι2 v2 H2 e2 rr2 S2 => ?_⟩⟩
    obtain ⟨r, e, q⟩ := h2.opt
    unfold op2 at e
    simp only at e
    split at e
    · obtain ⟨ds, e3, rfl⟩ := Option.map_eq_some_iff.mp e
      obtain ⟨k, rfl⟩ := lrange_of e3
      exact ⟨_, _, Rep.int_of rr1, Rep.int_of rr2, k, rg_new (e1.trans e2) S2 q⟩
    · cases e
  | trg2 =>
    obtain ⟨rfl, rfl⟩ := h4
    refine (pe_tupRg ok.calm g1 g4 (prg_2 k1 k4 ha hb na nb (hp _))).weak fun σ H Q ⟨ι, env, M, rs, S, go⟩ => ⟨ι, env, M, rs, S, go.bnd.mono fun r1 M1 h1 ι1 v1 H1 e1 rr1 S1 => ⟨ι1, env, M1, rs.ext e1, S1, (h1.bnd.later e1).mono fun r2 M2 h2 ι2 v2 H2 e2 rr2 S2 => ?_⟩⟩
    obtain ⟨r, e, q⟩ := h2.opt
    unfold op2 at e
    simp only at e
    split at e
    · obtain ⟨ds, e3, rfl⟩ := Option.map_eq_some_iff.mp e
      obtain ⟨k, rfl⟩ := lrange_of e3
      exact ⟨_, _, Rep.int_of rr1, Rep.int_of rr2, k, rg_newT (e1.trans e2) S2 q⟩
    · cases e
end
end Q
end

section
set_option Elab.async false
set_option linter.all false
set_option maxRecDepth 100000
set_option maxHeartbeats 8000000
namespace Q
open PySem PySem.Spec PyProof.Rows L2
section
variable {G : NX} {E : GX} {F : Nat → List D → Md Rv} {N : List Str} {sc ws : Scope} {W : WX} {X : Cx}
/-- computed, tested, tested as a part of and, or -/
structure Snd (E : GX) (X : Cx) (W : WX) (e : Expr) (f : Env → Md Rv) : Prop where
  de : DE E X W e f
  dt : DT E X W e (asBool f)
  dw : ∀ o vs p, e = .BoolOp o vs p → DW E X W e (asBool f)
theorem Snd.plain {e : Expr} {f : Env → Md Rv} (h : DE E X W e f) (he : ∀ whole, isTrue e X.env whole = (do let v ← whole; standAt e.pos; holding [v] (truthy v))) (hb : ∀ o vs p, e ≠ .BoolOp o vs p) : Snd E X W e f :=
  ⟨h, dt_val h he, fun o vs p z => absurd z (hb o vs p)⟩
theorem Snd.never {e : Expr} : Snd E X W e fun _ => stk :=
  ⟨de_never, ⟨fun pins s σ H Q I ⟨_, _, _, _, _, go⟩ => False.elim go⟩, fun _ _ _ _ => ⟨fun wh pins s σ H Q I ⟨_, _, _, _, _, go⟩ => False.elim go⟩⟩
theorem semRs_len : ∀ (es : Es) (xs : List Expr), cRs G N es sc xs = true → ∀ env M rs M', semRs F es env M = .ok rs M' → rs.length = xs.length
  | .nil, xs, h, env, M, rs, M', e => by
    cases xs with
    | nil => cases e; rfl
    | cons _ _ => cases h
  | .cons t ts, xs, h, env, M, rs, M', e => by
    cases xs with
    | nil => cases h
    | cons x xs =>
      obtain ⟨_, h2⟩ := and2 h
      obtain ⟨_, h2⟩ := and2 h2
      have e : bnd (sem F t env) (fun d => bnd (semRs F ts env) fun ds => ret (d :: ds)) M = .ok rs M' := e
      unfold bnd at e
      cases e1 : sem F t env M with
      | ok d M1 =>
        rw [e1] at e
        simp only at e
        cases e2 : semRs F ts env M1 with
        | ok ds M2 =>
          rw [e2] at e
          cases e
          exact congrArg (· + 1) (semRs_len ts xs h2 env M1 ds _ e2)
        | exc c p M2 => rw [e2] at e; cases e
        | stuck => rw [e2] at e; cases e
      | exc c p M1 => rw [e1] at e; cases e
      | stuck => rw [e1] at e; cases e
  | .star _ _, _, h, _, _, _, _, _ => by cases h
  | .plc _ _, _, h, _, _, _, _, _ => by cases h
theorem few_of {pos : Pos} {env : PySem.Env} {y : Expr} {r : List Expr} (h4 : (y :: r).all (fun z => !starE z) = true) (h5 : (y :: r).length < 20) :
    ((backTo pos (starEach (y :: r) env)).all (fun x => !x.1) && (backToKw pos (keywordEach [] env)).all (fun x => x.1.isSome) && decide ((y :: r).length + ([] : List Keyword).length + (if ([] : List Keyword).isEmpty then 0 else 1) < 30)) = true := by
  have h := plain_of (pos := pos) (env := env) h4
  have e1 : (backTo pos (starEach (y :: r) env)).all (fun x => !x.1) = true := by
    rw [List.all_eq_not_any_not]
    simp only [Bool.not_not]
    rw [h]; rfl
  rw [e1]
  show decide ((y :: r).length + 0 + 0 < 30) = true
  exact decide_eq_true (by omega)
theorem meth_run (m : Mth) {x : Expr} {args : List Expr} {apos pos : Pos} {a : Tm} {es : Es} (h0 : (match m with | .pop => args.isEmpty | _ => !args.isEmpty) = true) (sa : DE E X W x (sem F a)) (se : DA E X W args (semEs F es)) (h7 : cEs G N es sc args = true)
    (hb : attributeBase x (mthNm m) X.env (eval x X.env) = eval x X.env) (h2 : (apos.endLine == pos.line) = true) (h4 : args.all (fun z => !starE z) = true) (h5 : args.length < 20) : DE E X W (.Call (.Attribute x (mthNm m) apos) args [] pos) (sem F (.meth m a es)) := by
  cases m with
  | pop =>
    cases args with
    | cons _ _ => cases h0
    | nil =>
      have he : es = .nil := by
        cases es with
        | nil => rfl
        | cons _ _ => cases h7
        | star _ _ => cases h7
        | plc _ _ => cases h7
      subst he
      refine (pe_bm0 PySem.F.plainAttrs_list PySem.F.slot_list_pop PySem.F.type_list_pop (mt_ok .pop) sa hb h2).weak fun σ H Q q => mono_liftE (meth_weak (m := .pop) (f := sem F a) (t := semEs F .nil) q) fun v H1 ⟨z1, ι, env, M, rs, S, go⟩ => ⟨z1, go ι [] H1 Ext.refl .nil S⟩
  | append =>
    cases args with
    | nil => cases h0
    | cons y r =>
      obtain ⟨s1, s2⟩ := and2 (show (!starE y && r.all fun z => !starE z) = true from h4)
      exact (pe_bm PySem.F.plainAttrs_list PySem.F.slot_list_append PySem.F.type_list_append (mt_ok .append) sa se hb (few_of h4 h5) h2 (starE_of (not_t s1)) (plain_of s2)).weak fun σ H Q q => meth_weak q
  | extend =>
    cases args with
    | nil => cases h0
    | cons y r =>
      obtain ⟨s1, s2⟩ := and2 (show (!starE y && r.all fun z => !starE z) = true from h4)
      exact (pe_bm PySem.F.plainAttrs_list PySem.F.slot_list_extend PySem.F.type_list_extend (mt_ok .extend) sa se hb (few_of h4 h5) h2 (starE_of (not_t s1)) (plain_of s2)).weak fun σ H Q q => meth_weak q
mutual
theorem cE_ok : ∀ (t : Tm) {sc ws : Scope} {W : WX} {X : Cx} (e : Expr), XOk G E F N sc ws W X → cE G N t sc e = true → Snd E X W e (sem F t)
  | .never, sc, ws, W, X, e, ok, h => Snd.never
  | .op1 o a, sc, ws, W, X, e, ok, h => by
    have h : (match op1Arg G sc o e with
      | some x => cE G N a sc x
      | none => false) = true := h
    cases q : op1Arg G sc o e with
    | none => rw [q] at h; cases h
    | some x =>
      rw [q] at h
      exact .plain (de_op1 ok q (cE_ok a x ok h).de) (op1_plain (X := X) q).1 (op1_plain (X := X) q).2
  | .op2 o a b, sc, ws, W, X, e, ok, h => by
    have h : (match op2Arg G sc o e with
      | some (x, y) => cE G N a sc x && cE G N b sc y
      | none => false) = true := h
    cases q : op2Arg G sc o e with
    | none => rw [q] at h; cases h
    | some p =>
      obtain ⟨x, y⟩ := p
      rw [q] at h
      obtain ⟨h1, h2⟩ := and2 h
      exact .plain (de_op2 ok q (cE_ok a x ok h1).de (cE_ok b y ok h2).de) (op2_plain (X := X) q).1 (op2_plain (X := X) q).2
  | .dict0 t, sc, ws, W, X, e, ok, h => by
    cases e with
    | Dict ks vs pos =>
      obtain ⟨h1, h2⟩ := and2 (show (ks.isEmpty && vs.isEmpty) = true from h)
      cases ks with
      | cons _ _ => cases h1
      | nil =>
        cases vs with
        | cons _ _ => cases h2
        | nil => exact .plain de_dict0 (fun _ => rfl) (fun _ _ _ z => nomatch z)
    | _ => cases h
  | .var i, sc, ws, W, X, e, ok, h => by
    cases e with
    | Name x pos =>
      obtain ⟨h1, h2⟩ := and2 h
      obtain ⟨h2, h3⟩ := and2 h2
      obtain ⟨h3, h4⟩ := and2 h3
      refine .plain (de_var (pe_var (by rw [ok.hN]; exact of_decide_eq_true h1) (vis_of ok h2) ?_ ?_)) (fun _ => rfl) (fun _ _ _ z => nomatch z)
      · exact beq_eq_false_iff_ne.mpr (of_decide_eq_true h3)
      · exact beq_eq_false_iff_ne.mpr (of_decide_eq_true h4)
    | _ => cases h
  | .cst d, sc, ws, W, X, e, ok, h => by
    cases e with
    | Constant c j pos =>
      obtain ⟨v, h1, h2⟩ := rep_cst (K := X.K) h (j := j) (pos := pos)
      exact .plain (de_cst (h1 X) h2) (fun _ => rfl) (fun _ _ _ z => nomatch z)
    | Name x pos =>
      obtain ⟨h1, h2⟩ := and2 h
      obtain ⟨g1, g2, g3⟩ := glb_of ok h1
      obtain ⟨u, v, q1, q2, q3⟩ := consts_of ok h2
      exact .plain (de_cst (pe_glob g1 q1 q2 g2) q3) (fun _ => rfl) (fun _ _ _ z => nomatch z)
    | _ => cases h
  | .neg a, sc, ws, W, X, e, ok, h => by
    cases e with
    | UnaryOp op x pos =>
      cases op with
      | USub => exact .plain (de_neg (cE_ok a x ok h).de) (fun _ => rfl) (fun _ _ _ z => nomatch z)
      | _ => cases h
    | _ => cases h
  | .nt a, sc, ws, W, X, e, ok, h => by
    cases e with
    | UnaryOp op x pos =>
      cases op with
      | Not =>
        have s := cE_ok a x ok h
        exact ⟨de_not s.de, dt_not s.dt, fun _ _ _ z => nomatch z⟩
      | _ => cases h
    | _ => cases h
  | .bin o a b, sc, ws, W, X, e, ok, h => by
    cases e with
    | BinOp x p y pos =>
      obtain ⟨h1, h2⟩ := and2 h
      obtain ⟨h2, h3⟩ := and2 h2
      obtain rfl := bopIs_eq h1
      exact .plain (de_bin o (cE_ok a x ok h2).de (cE_ok b y ok h3).de) (fun _ => rfl) (fun _ _ _ z => nomatch z)
    | _ => cases h
  | .cmp o a b, sc, ws, W, X, e, ok, h => by
    cases e with
    | Compare x ops ys pos =>
      match ops, ys, h with
      | [p], [y], h =>
        obtain ⟨h1, h2⟩ := and2 h
        obtain ⟨h2, h3⟩ := and2 h2
        obtain ⟨h3, h4⟩ := and2 h3
        obtain rfl := copIs_eq h1
        have sa := cE_ok a x ok h3
        have sb := cE_ok b y ok h4
        exact ⟨de_cmp ok.room o (mark_of (not_t h2)) sa.de sb.de, dt_cmp ok.room o (mark_of (not_t h2)) sa.de sb.de, fun _ _ _ z => nomatch z⟩
      | [], _, h => cases h
      | [_], [], h => cases h
      | [_], _ :: _ :: _, h => cases h
      | _ :: _ :: _, _, h => cases h
    | _ => cases h
  | .chain o o' a b c, sc, ws, W, X, e, ok, h => by
    cases e with
    | Compare x ops ys pos =>
      match ops, ys, h with
      | [p, p'], [y, z], h =>
        obtain ⟨h1, h2⟩ := and2 h
        obtain ⟨h2, h3⟩ := and2 h2
        obtain ⟨h3, h4⟩ := and2 h3
        obtain ⟨h4, h5⟩ := and2 h4
        obtain ⟨h5, h6⟩ := and2 h5
        obtain ⟨h6, h7⟩ := and2 h6
        obtain rfl := copIs_eq h1
        obtain rfl := copIs_eq h2
        have sa := (cE_ok a x ok h5).de
        have sb := (cE_ok b y ok h6).de
        have sc' := (cE_ok c z ok h7).de
        have hm : lastMarks [copA o, copA o'] [y, z] = false := mark_of (not_t h4)
        have R := pe_chain (pos := pos) (op_cmp ok.room o) (op_cmp ok.room o') sa sb sc' hm
        have T := pt_chain (pos := pos) (op_cmp ok.room o) (op_cmp ok.room o') sa sb sc' hm
        exact ⟨de_chain ok.room o o' (mark_of (not_t h3)) (mark_of (not_t h4)) sa sb sc' R, T.weak fun σ H Q q => chain_weak (bool_weak q), fun _ _ _ z => nomatch z⟩
      | [], _, h => cases h
      | [_], _, h => cases h
      | _ :: _ :: _ :: _, _, h => cases h
      | [_, _], [], h => cases h
      | [_, _], [_], h => cases h
      | [_, _], _ :: _ :: _ :: _, h => cases h
    | _ => cases h
  | .and a b, sc, ws, W, X, e, ok, h => by
    cases e with
    | BoolOp op vs pos =>
      cases op with
      | And =>
        match vs, h with
        | x :: y :: [], h =>
          obtain ⟨h1, h2⟩ := and2 h
          have sa := cE_ok a x ok h1
          have sb := cE_ok b y ok h2
          have dw : DW E X W (.BoolOp .And [x, y] pos) (asBool (sAnd (sem F a) (sem F b))) := dw_and sa.dt (pw_and1 sb.dt)
          exact ⟨de_and sa.de (pe_one sb.de), dw.pt, fun _ _ _ _ => dw⟩
        | x :: y :: z :: r, h =>
          obtain ⟨h1, h2⟩ := and2 h
          have sa := cE_ok a x ok h1
          have sb := cE_ok b (.BoolOp .And (y :: z :: r) pos) ok h2
          have dw : DW E X W (.BoolOp .And (x :: y :: z :: r) pos) (asBool (sAnd (sem F a) (sem F b))) := dw_and sa.dt (sb.dw _ _ _ rfl)
          exact ⟨de_and sa.de sb.de, dw.pt, fun _ _ _ _ => dw⟩
        | [], h => cases h
        | [_], h => cases h
      | Or => cases h
    | _ => cases h
  | .or a b, sc, ws, W, X, e, ok, h => by
    cases e with
    | BoolOp op vs pos =>
      cases op with
      | Or =>
        match vs, h with
        | x :: y :: [], h =>
          obtain ⟨h1, h2⟩ := and2 h
          have sa := cE_ok a x ok h1
          have sb := cE_ok b y ok h2
          have dw : DW E X W (.BoolOp .Or [x, y] pos) (asBool (sOr (sem F a) (sem F b))) := dw_or sa.dt (pw_or1 sb.dt)
          exact ⟨de_or sa.de (pe_one sb.de), dw.pt, fun _ _ _ _ => dw⟩
        | x :: y :: z :: r, h =>
          obtain ⟨h1, h2⟩ := and2 h
          have sa := cE_ok a x ok h1
          have sb := cE_ok b (.BoolOp .Or (y :: z :: r) pos) ok h2
          have dw : DW E X W (.BoolOp .Or (x :: y :: z :: r) pos) (asBool (sOr (sem F a) (sem F b))) := dw_or sa.dt (sb.dw _ _ _ rfl)
          exact ⟨de_or sa.de sb.de, dw.pt, fun _ _ _ _ => dw⟩
        | [], h => cases h
        | [_], h => cases h
      | And => cases h
    | _ => cases h
  | .ite c a b, sc, ws, W, X, e, ok, h => by
    cases e with
    | IfExp x y z pos =>
      obtain ⟨h1, h2⟩ := and2 h
      obtain ⟨h2, h3⟩ := and2 h2
      have s1 := cE_ok c x ok h1
      have s2 := cE_ok a y ok h2
      have s3 := cE_ok b z ok h3
      exact ⟨de_ite s1.dt s2.de s3.de, dt_ite s1.dt s2.dt s3.dt, fun _ _ _ z => nomatch z⟩
    | _ => cases h
  | .tup es, sc, ws, W, X, e, ok, h => by
    cases e with
    | Tuple xs k pos => exact .plain (de_tup (cEs_ok es xs ok h)) (fun _ => rfl) (fun _ _ _ z => nomatch z)
    | _ => cases h
  | .lst es, sc, ws, W, X, e, ok, h => by
    cases e with
    | List xs pos => exact .plain (de_lst (cEs_ok es xs ok h)) (fun _ => rfl) (fun _ _ _ z => nomatch z)
    | _ => cases h
  | .idx a b, sc, ws, W, X, e, ok, h => by
    cases e with
    | Subscript x y pos =>
      obtain ⟨h1, h2⟩ := and2 h
      obtain ⟨h2, h3⟩ := and2 h2
      exact .plain (de_idx (plainIx_of (not_t h1)) (cE_ok a x ok h2).de (cE_ok b y ok h3).de) (fun _ => rfl) (fun _ _ _ z => nomatch z)
    | _ => cases h
  | .slc a lo hi, sc, ws, W, X, e, ok, h => by
    cases e with
    | Subscript x y pos =>
      cases y with
      | Slice l u st p2 =>
        cases st with
        | none =>
          obtain ⟨h1, h2⟩ := and2 h
          obtain ⟨h2, h3⟩ := and2 h2
          have abs : ∀ {t : Tm}, isAbs t = true → t = .cst .non := fun {t} z => by
            cases t with
            | cst d => cases d <;> first | rfl | cases z
            | _ => cases z
          have dl : PO X l (liftP E X.K W fun env => bnd (sem F lo env) (partM (isAbs lo))) := by
            cases l with
            | none =>
              rw [abs h2]
              exact dp_none
            | some l =>
              obtain ⟨g1, g2⟩ := and2 h2
              rw [not_t g1]
              exact dp_some (cE_ok lo l ok g2).de
          have dh : PO X u (liftP E X.K W fun env => bnd (sem F hi env) (partM (isAbs hi))) := by
            cases u with
            | none =>
              rw [abs h3]
              exact dp_none
            | some u =>
              obtain ⟨g1, g2⟩ := and2 h3
              rw [not_t g1]
              exact dp_some (cE_ok hi u ok g2).de
          exact .plain (de_slc (cE_ok a x ok h1).de dl dh) (fun _ => rfl) (fun _ _ _ z => nomatch z)
        | some _ => cases h
      | _ => cases h
    | _ => cases h
  | .call f es, sc, ws, W, X, e, ok, h => by
    cases e with
    | Call fn args kws pos =>
      cases fn with
      | Name x p =>
        match args, kws, h with
        | a :: r, [], h =>
          obtain ⟨h1, h2⟩ := and2 h
          obtain ⟨h2, h3⟩ := and2 h2
          obtain ⟨h3, h4⟩ := and2 h3
          exact .plain (de_call ok h1 h2 h3 (cEs_ok es (a :: r) ok h4)) (fun _ => rfl) (fun _ _ _ z => nomatch z)
        | [], _, h => cases h
        | _ :: _, _ :: _, h => cases h
      | _ => cases h
    | _ => cases h
  | .blt b es, sc, ws, W, X, e, ok, h => by
    cases e with
    | Call fn args kws pos =>
      cases fn with
      | Name x p =>
        match args, kws, h with
        | a :: r, [], h =>
          obtain ⟨h1, h2⟩ := and2 h
          obtain ⟨h2, h3⟩ := and2 h2
          exact .plain (de_blt ok h1 h2 (cRs_ok es (a :: r) ok h3)) (fun _ => rfl) (fun _ _ _ z => nomatch z)
        | [], _, h => cases h
        | _ :: _, _ :: _, h => cases h
      | _ => cases h
    | _ => cases h
  | .isin a ts, sc, ws, W, X, e, ok, h => by
    cases e with
    | Call fn args kws pos =>
      cases fn with
      | Name x p =>
        match args, kws, h with
        | [y, z], [], h =>
          obtain ⟨h1, h2⟩ := and2 h
          obtain ⟨h2, h3⟩ := and2 h2
          obtain ⟨h3, h4⟩ := and2 h3
          obtain ⟨h4, h5⟩ := and2 h4
          exact .plain (isin_run ok (of_decide_eq_true h1) h2 (not_t h3) h4 (cE_ok a y ok h5).de) (fun _ => rfl) (fun _ _ _ z => nomatch z)
        | [], _, h => cases h
        | [_], _, h => cases h
        | [_, _], _ :: _, h => cases h
        | _ :: _ :: _ :: _, _, h => cases h
      | _ => cases h
    | _ => cases h
  | .comp own it g c elt, sc, ws, W, X, e, ok, h => by
    have h : (match unComp e with
      | some (x, tg, iter, ifs, scope) => blkC N sc scope (ownN N own) && (g.slots.all (fun i => decide (i ∈ own)) && (!setE iter && (cI G N it sc tg iter && (cG N (relS scope sc) scope g tg && ((match ifs with
        | [] => isTrueT c
        | [y] => cE G N c (relS scope sc) y
        | _ => false) && cE G N elt (relS scope sc) x)))))
      | none => false) = true := h
    cases eu : unComp e with
    | none => rw [eu] at h; cases h
    | some q =>
      obtain ⟨x, tg, iter, ifs, scope⟩ := q
      rw [eu] at h
      obtain ⟨pos, rfl⟩ : ∃ pos, e = .ListComp x [⟨tg, iter, ifs, 0⟩] scope pos := by
        unfold unComp at eu
        split at eu
        · cases eu; exact ⟨_, rfl⟩
        · cases eu
      obtain ⟨h1, h⟩ := and2 h
      obtain ⟨h2, h⟩ := and2 h
      obtain ⟨h3, h⟩ := and2 h
      obtain ⟨h4, h⟩ := and2 h
      obtain ⟨h5, h⟩ := and2 h
      obtain ⟨h6, h7⟩ := and2 h
      have bo : BlkOk X.N X.env.scope scope (ownN N own) := by rw [ok.hN, ok.hsc]; exact blkOk_by h1
      have hs : ∀ v, foldedSetIterable iter X.env v = pure v := fun v => by cases iter <;> first | rfl | (cases (not_t h3); done)
      have own2 : (ownN N own).map (·.2) = own := by
        unfold ownN
        rw [List.map_map]
        exact List.map_id _
      have parts : ∃ tt : TT, (∀ (s : Shared) (H : Hp) (C : Addr) (cl : List (Str × Addr)) (fp : List Addr), PTs (X.blk s H scope (compEnvC scope cl C X.env) fp) ifs tt) ∧ ∀ σ H Q, liftB E X.K W0 (asBool (sem F c)) σ H Q → tt σ H Q := by
        match ifs, h6 with
        | [], h6 =>
          refine ⟨tYes, fun _ _ _ _ _ => pts_nil, fun σ H Q q => ?_⟩
          have hc : c = .cst (.bl true) := by
            cases c with
            | cst d =>
              cases d with
              | bl b => cases b <;> first | rfl | cases h6
              | _ => cases h6
            | _ => cases h6
          subst hc
          obtain ⟨ι, env, M, rs, S, go⟩ := q
          exact go ι H Ext.refl S
        | [y], h6 => exact ⟨_, fun s H C cl fp => pts_one (cE_ok c y (ok.blk scope s H C cl fp) h6).dt, fun σ H Q q => q⟩
        | _ :: _ :: _, h6 => cases h6
      obtain ⟨tt, ht, htt⟩ := parts
      have hN : X.N.Nodup := by rw [ok.hN]; exact ok.nd
      have R := pe_lc (pos := pos) (te := liftE E X.K W0 (sem F elt)) (g := liftG X.K g) (wi := liftI E X.K W (semIt F it)) ok.calm hN (cI_ok it tg iter ok h4) bo (fun s H C cl fp => cG_ok (ok.blk scope s H C cl fp) g tg h5) ht (fun s H C cl fp => (cE_ok elt x (ok.blk scope s H C cl fp) h7).de) hs
      rw [own2] at R
      have hg : ∀ i ∈ g.slots, i ∈ own := fun i hi => of_decide_eq_true (List.all_eq_true.mp h2 i hi)
      exact .plain (R.weak fun σ H Q q => comp_weak hg htt q) (fun _ => rfl) (fun _ _ _ z => nomatch z)
  | .meth m a es, sc, ws, W, X, e, ok, h => by
    cases e with
    | Call fn args kws pos =>
      cases fn with
      | Attribute x nm apos =>
        cases kws with
        | nil =>
          obtain ⟨h1, h⟩ := and2 h
          obtain ⟨h0, h⟩ := and2 h
          obtain ⟨h2, h⟩ := and2 h
          obtain ⟨h3, h⟩ := and2 h
          obtain ⟨h4, h⟩ := and2 h
          obtain ⟨h5, h⟩ := and2 h
          obtain ⟨h6, h7⟩ := and2 h
          have h1 := of_decide_eq_true h1
          have h2 : (apos.endLine == pos.line) = true := beq_iff_eq.mpr (Nat.eq_of_beq_eq_true h2)
          have h5 := of_decide_eq_true h5
          have sa := (cE_ok a x ok h6).de
          have se := cEs_ok es args ok h7
          have hb : attributeBase x nm X.env (eval x X.env) = eval x X.env := by
            cases x <;> first | rfl | (cases (not_t h3); done)
          obtain rfl := h1
          refine .plain ?_ (fun _ => rfl) (fun _ _ _ z => nomatch z)
          exact meth_run m h0 sa se h7 hb h2 h4 h5
        | cons _ _ => cases args <;> cases h
      | _ => cases h
    | _ => cases h
theorem cEs_ok : ∀ (es : Es) {sc ws : Scope} {W : WX} {X : Cx} (xs : List Expr), XOk G E F N sc ws W X → cEs G N es sc xs = true → DA E X W xs (semEs F es)
  | .nil, sc, ws, W, X, xs, ok, h => by
    cases xs with
    | nil => exact da_nil
    | cons _ _ => cases h
  | .cons t ts, sc, ws, W, X, xs, ok, h => by
    cases xs with
    | nil => cases h
    | cons x xs =>
      obtain ⟨h1, h2⟩ := and2 h
      obtain ⟨h2, h3⟩ := and2 h2
      exact da_cons (cE_ok t x ok h2).de (cEs_ok ts xs ok h3) (starE_of (not_t h1))
  | .plc t ts, sc, ws, W, X, xs, ok, h => by
    cases xs with
    | nil => cases h
    | cons x xs =>
      obtain ⟨h1, h⟩ := and2 h
      obtain ⟨h2, h3⟩ := and2 h
      exact da_plc (cE_ok t x ok h2).de (cEs_ok ts xs ok h3) (starE_of (not_t h1))
  | .star t ts, sc, ws, W, X, xs, ok, h => by
    cases xs with
    | nil => cases h
    | cons x xs =>
      cases x with
      | Starred e p =>
        obtain ⟨h2, h3⟩ := and2 h
        exact da_star (cE_ok t e ok h2).de (cEs_ok ts xs ok h3)
      | _ => cases h
theorem cRs_ok : ∀ (es : Es) {sc ws : Scope} {W : WX} {X : Cx} (xs : List Expr), XOk G E F N sc ws W X → cRs G N es sc xs = true → DR E X W xs (semRs F es)
  | .nil, sc, ws, W, X, xs, ok, h => by
    cases xs with
    | nil => exact dr_nil
    | cons _ _ => cases h
  | .cons t ts, sc, ws, W, X, xs, ok, h => by
    cases xs with
    | nil => cases h
    | cons x xs =>
      obtain ⟨h1, h2⟩ := and2 h
      obtain ⟨h2, h3⟩ := and2 h2
      exact dr_cons (cE_ok t x ok h2).de (cRs_ok ts xs ok h3) (starE_of (not_t h1))
  | .star _ _, sc, ws, W, X, xs, ok, h => by cases h
  | .plc _ _, sc, ws, W, X, xs, ok, h => by cases h
theorem cI_ok : ∀ (it : Itm) {sc ws : Scope} {W : WX} {X : Cx} (tg e : Expr), XOk G E F N sc ws W X → cI G N it sc tg e = true → DI E X W tg e (semIt F it)
  | .seq a, sc, ws, W, X, tg, e, ok, h => di_seq (cE_ok a e ok h).de
  | .rng es, sc, ws, W, X, tg, e, ok, h => by
    cases e with
    | Call fn args kws pos =>
      cases fn with
      | Name x p =>
        cases kws with
        | nil =>
          obtain ⟨h1, h⟩ := and2 h
          obtain ⟨h2, h⟩ := and2 h
          obtain ⟨h3, h⟩ := and2 h
          obtain ⟨h4, h5⟩ := and2 h
          obtain rfl := of_decide_eq_true h1
          obtain ⟨g1, g2, g3, g4⟩ := freeB_of ok h2
          have sr := cRs_ok es args ok h5
          have hl := semRs_len (F := F) es args h5
          match args, of_decide_eq_true h3, h4, sr, hl with
          | [a], _, h4, sr, hl =>
            obtain ⟨s1, _⟩ := and2 (show (!starE a && true) = true from h4)
            exact di_rng1 g1 g4 sr (starE_of (not_t s1)) fun env M xs M' e => hl env M xs M' e
          | [a, b], _, h4, sr, hl =>
            obtain ⟨s1, s2⟩ := and2 (show (!starE a && (!starE b && true)) = true from h4)
            obtain ⟨s2, _⟩ := and2 s2
            have e2 : starEach [b] X.env = [(false, eval b X.env)] := starE_of (not_t s2)
            refine di_rng2 g1 g4 sr ?_ e2 fun env M xs M' e => hl env M xs M' e
            rw [starE_of (not_t s1), e2]
          | [], h3, _, _, _ => exact absurd h3 (by decide)
          | _ :: _ :: _ :: r, h3, _, _, _ => exact absurd h3 (by simp)
        | cons _ _ => cases args <;> cases h
      | _ => cases h
    | _ => cases h
  | .zip a b, sc, ws, W, X, tg, e, ok, h => by
    cases e with
    | Call fn args kws pos =>
      cases fn with
      | Name x p =>
        match args, kws, h with
        | [y, z], [], h =>
          obtain ⟨h1, h⟩ := and2 h
          obtain ⟨h2, h⟩ := and2 h
          obtain ⟨h3, h⟩ := and2 h
          obtain ⟨h4, h⟩ := and2 h
          obtain ⟨h5, h⟩ := and2 h
          obtain ⟨h6, h7⟩ := and2 h
          obtain rfl := of_decide_eq_true h1
          obtain ⟨g1, g2, g3, g4⟩ := freeB_of ok h2
          cases tg with
          | Tuple elts kk tpos => exact di_zip g1 g4 (cE_ok a y ok h6).de (cE_ok b z ok h7).de (starE_of (not_t h4)) (starE_of (not_t h5))
          | _ => cases h3
        | [], _, h => cases h
        | [_], _, h => cases h
        | [_, _], _ :: _, h => cases h
        | _ :: _ :: _ :: _, _, h => cases h
      | _ => cases h
    | _ => cases h
  | .enum a, sc, ws, W, X, tg, e, ok, h => by
    cases e with
    | Call fn args kws pos =>
      cases fn with
      | Name x p =>
        match args, kws, h with
        | [y], [], h =>
          obtain ⟨h1, h⟩ := and2 h
          obtain ⟨h2, h⟩ := and2 h
          obtain ⟨h3, h⟩ := and2 h
          obtain ⟨h4, h5⟩ := and2 h
          obtain rfl := of_decide_eq_true h1
          obtain ⟨g1, g2, g3, g4⟩ := freeB_of ok h2
          cases tg with
          | Tuple elts kk tpos => exact di_enum g1 g4 (cE_ok a y ok h5).de (starE_of (not_t h4))
          | _ => cases h3
        | [], _, h => cases h
        | [_], _ :: _, h => cases h
        | _ :: _ :: _, _, h => cases h
      | _ => cases h
    | _ => cases h
end
end
end Q
end

section
set_option Elab.async false
set_option linter.all false
set_option maxRecDepth 100000
set_option maxHeartbeats 8000000
/-! Statements, defs, texts. -/
namespace Q
open PySem PySem.Spec PyProof.Rows L2
/-- does the new list of a comprehension take its name's place at once -/
def swp (sc : Scope) (t : Str) (tp p : Pos) (s : Scope) : Bool := sc.names.lookup t == some NameKind.local && tp.line == p.line && !(s.names.any fun (n, k) => n == t && (k == .local || k == .cell))
def compE : Expr → Bool
  | .ListComp _ _ _ _ => true
  | .SetComp _ _ _ _ => true
  | .DictComp _ _ _ _ _ => true
  | _ => false
theorem sw_no {e : Expr} {tg : Option Expr} {l : Nat} {env : PySem.Env} (h : compE e = false) : swapsWith e tg l env = pure false := by cases e <;> first | rfl | cases h
theorem sw_comp {elt : Expr} {gs : List Comprehension} {s : Scope} {p tp : Pos} {t : Str} {l : Nat} {env : PySem.Env} {sc : Scope} (hk : env.scope.kind = .function) (hs : env.scope = sc) (h : swp sc t tp p s = false) : swapsWith (.ListComp elt gs s p) (some (.Name t tp)) l env = pure false := by
  have hb : env.blockKind = .function := by unfold Env.blockKind; rw [hk]; rfl
  have e : swapsWith (.ListComp elt gs s p) (some (.Name t tp)) l env = pure (env.blockKind == .function && env.kindOf t == some .local && tp.line == p.line && !(s.names.any fun (n, k) => n == t && (k == .local || k == .cell))) := rfl
  rw [e, hb]
  unfold swp at h
  have hq : env.kindOf t = sc.names.lookup t := by unfold Env.kindOf; rw [hs]
  rw [hq]
  rw [show (ScopeKind.function == ScopeKind.function) = true from rfl, Bool.true_and, h]
/-- the names that are stored from the right; none: in order -/
def swNames (sc : Scope) (ts : List Expr) : List Str := ts.filterMap fun
  | .Name id pos => if (sc.names.lookup id == some NameKind.local && pos.line == (Option.map (fun x : Expr => x.pos.line) ts.head?).getD 0) = true then some id else none
  | _ => none
def sw1 (ts vs : List Expr) : Bool := !(ts.length == 2 || ts.length == 3) || vs.length != ts.length || ScopeKind.function != ScopeKind.function
def sw2 (vs : List Expr) : Bool := vs.any fun | .Starred .. => true | _ => false
def sw3 (sc : Scope) (ts : List Expr) : Bool := (swNames sc ts).length != ts.length || (swNames sc ts).eraseDups.length != (swNames sc ts).length
def swS (sc : Scope) (ts vs : List Expr) : Option (Option (List Str)) :=
  if sw1 ts vs = true then some none else if sw2 vs = true then some none else if sw3 sc ts = true then some none else
  if vs.all (foldedForSure 8) = true then some none else
  if vs.all (constantsAlone 8) = true then none else some (some (swNames sc ts))
theorem sw_eq {env : PySem.Env} {sc : Scope} {ts vs : List Expr} {k k2 : Nat} {p p2 : Pos} {r : Option (List Str)} (hk : env.scope.kind = .function) (hs : env.scope = sc) (h : swS sc ts vs = some r) : swappedStores [.Tuple ts k p] (.Tuple vs k2 p2) env = pure r := by
  have hb : env.blockKind = .function := by unfold Env.blockKind; rw [hk]; rfl
  subst hs
  unfold swS at h
  unfold swappedStores
  simp only [hb]
  show (if sw1 ts vs = true then pure none else if sw2 vs = true then pure none else if sw3 env.scope ts = true then pure none else
    if vs.all (foldedForSure 8) = true then pure none else
    if vs.all (constantsAlone 8) = true then (do unsupported "assign.tuple-of-constant-expressions:order-of-the-stores"; pure (some (swNames env.scope ts))) else (pure (some (swNames env.scope ts)) : Sem (Option (List Str)))) = pure r
  by_cases c1 : sw1 ts vs = true
  · rw [if_pos c1] at h ⊢; cases h; rfl
  rw [if_neg c1] at h ⊢
  by_cases c2 : sw2 vs = true
  · rw [if_pos c2] at h ⊢; cases h; rfl
  rw [if_neg c2] at h ⊢
  by_cases c3 : sw3 env.scope ts = true
  · rw [if_pos c3] at h ⊢; cases h; rfl
  rw [if_neg c3] at h ⊢
  by_cases c4 : vs.all (foldedForSure 8) = true
  · rw [if_pos c4] at h ⊢; cases h; rfl
  rw [if_neg c4] at h ⊢
  by_cases c5 : vs.all (constantsAlone 8) = true
  · rw [if_pos c5] at h; cases h
  rw [if_neg c5] at h ⊢; cases h; rfl

/-! ### the look at statements -/
def compT : Tm → Bool
  | .comp _ _ _ _ _ => true
  | _ => false
/-- is the store's order that of the page -/
def asgB (sc : Scope) (tg e : Expr) (t : Tm) : Bool := match tg with
  | .Name _ _ => !compE e || (compT t && match e with
    | .ListComp _ _ _ _ => true
    | _ => false)
  | .Tuple ts _ _ => match e with
    | .Tuple vs _ _ => (match swS sc ts vs with
      | some none => true
      | _ => false)
    | e => !compE e
  | _ => false
def docE : Expr → Bool
  | .Constant (.str _) _ _ => true
  | _ => false
def parB (N : List Str) (sc : Scope) (js : List Nat) (ts vs : List Expr) : Bool :=
  match js, ts, vs with
  | [i, j], [.Name x _, .Name y _], [_, _] => decide (N[i]? = some x) && (decide (N[j]? = some y) && (decide (i ≠ j) && (decide (sc.names.lookup x = some .local) && (decide (sc.names.lookup y = some .local) && decide (swS sc ts vs = some (some [x, y]))))))
  | [i, j, k], [.Name x _, .Name y _, .Name z _], [_, _, _] => decide (N[i]? = some x) && (decide (N[j]? = some y) && (decide (N[k]? = some z) && (decide (i ≠ j) && (decide (i ≠ k) && (decide (j ≠ k) && (decide (sc.names.lookup x = some .local) && (decide (sc.names.lookup y = some .local) && (decide (sc.names.lookup z = some .local) && decide (swS sc ts vs = some (some [x, y, z]))))))))))
  | _, _, _ => false
section
variable {G : NX} {E : GX} {F : Nat → List D → Md Rv} {N : List Str} {sc : Scope} {W : WX} {X : Cx} {fuel : Nat}
theorem plainAssign_of {y : Expr} (h : sliceE y = false) (x : Expr) (p : Pos) (env : PySem.Env) (v : Value) : assign (.Subscript x y p) env v = (do
      let ov ← holding [v] (eval x env)
      let iv ← holding [v, ov] (eval y env)
      standAt p
      holding [v, ov, iv] (setItem ov iv v)
      release [v, ov, iv] []) := by cases y <;> first | rfl | cases h
theorem setc_ok (fw : Free W) (ok : XOk G E F N sc sc W X) {i : Nat} {y : Str} {py spos p : Pos} {x : Expr} {gs : List Comprehension} {scope : Scope} {t : Tm} (hk : X.env.scope.kind = .function) (h1 : cG N sc sc (.nm i) (.Name y py) = true) (h2 : cE G N t sc (.ListComp x gs scope p) = true) (h3 : compT t = true) (h4 : swp sc y py p scope = true) :
    DS E X W (.Assign [.Name y py] (.ListComp x gs scope p) spos) (sAsg (.nm i) (sem F t)) := by
  cases t with
  | comp own it g c elt =>
    have h2 : (match unComp (.ListComp x gs scope p) with
      | some (x, tg, iter, ifs, scope) => blkC N sc scope (ownN N own) && (g.slots.all (fun i => decide (i ∈ own)) && (!setE iter && (cI G N it sc tg iter && (cG N (relS scope sc) scope g tg && ((match ifs with
        | [] => isTrueT c
        | [y] => cE G N c (relS scope sc) y
        | _ => false) && cE G N elt (relS scope sc) x)))))
      | none => false) = true := h2
    cases eu : unComp (.ListComp x gs scope p) with
    | none => rw [eu] at h2; cases h2
    | some q =>
      obtain ⟨x', tg, iter, ifs, scope'⟩ := q
      rw [eu] at h2
      obtain ⟨rfl, rfl, rfl⟩ : x' = x ∧ gs = [⟨tg, iter, ifs, 0⟩] ∧ scope' = scope := by
        unfold unComp at eu
        split at eu
        · rename_i e1 e2 e3 e4 e5 e6 e7
          cases e7; cases eu; exact ⟨rfl, rfl, rfl⟩
        · cases eu
      have h := h2
      obtain ⟨h1', h⟩ := and2 h
      obtain ⟨h2', h⟩ := and2 h
      obtain ⟨h3', h⟩ := and2 h
      obtain ⟨h4', h⟩ := and2 h
      obtain ⟨h5', h⟩ := and2 h
      obtain ⟨h6', h7'⟩ := and2 h
      have bo : BlkOk X.N X.env.scope scope' (ownN N own) := by rw [ok.hN, ok.hsc]; exact blkOk_by h1'
      have hs : ∀ v, foldedSetIterable iter X.env v = pure v := fun v => by cases iter <;> first | rfl | (cases (not_t h3'); done)
      have own2 : (ownN N own).map (·.2) = own := by
        unfold ownN
        rw [List.map_map]
        exact List.map_id _
      have parts : ∃ tt : TT, (∀ (s : Shared) (H : Hp) (C : Addr) (cl : List (Str × Addr)) (fp : List Addr), PTs (X.blk s H scope' (compEnvC scope' cl C X.env) fp) ifs tt) ∧ ∀ σ H Q, liftB E X.K W0 (asBool (sem F c)) σ H Q → tt σ H Q := by
        match ifs, h6' with
        | [], h6' =>
          refine ⟨tYes, fun _ _ _ _ _ => pts_nil, fun σ H Q q => ?_⟩
          have hc : c = .cst (.bl true) := by
            cases c with
            | cst d =>
              cases d with
              | bl b => cases b <;> first | rfl | cases h6'
              | _ => cases h6'
            | _ => cases h6'
          subst hc
          obtain ⟨ι, env, M, rs, S, go⟩ := q
          exact go ι H Ext.refl S
        | [y], h6' => exact ⟨_, fun s H C cl fp => pts_one (cE_ok c y (ok.blk scope' s H C cl fp) h6').dt, fun σ H Q q => q⟩
        | _ :: _ :: _, h6' => cases h6'
      obtain ⟨tt, ht, htt⟩ := parts
      have hN : X.N.Nodup := by rw [ok.hN]; exact ok.nd
      have hg : ∀ i ∈ g.slots, i ∈ own := fun i hi => of_decide_eq_true (List.all_eq_true.mp h2' i hi)
      obtain ⟨hi1, hl1⟩ := and2 h1
      obtain ⟨w1, w2⟩ := and2 h4
      obtain ⟨w0, w1⟩ := and2 w1
      have w0 := eq_of_beq w0
      have hyl : X.env.scope.names.lookup y = some .local := by rw [ok.hsc]; exact w0
      have R := ps_setLc (spos := spos) (te := liftE E X.K W0 (sem F elt)) (g := liftG X.K g) (wi := liftI E X.K W (semIt F it)) ok.calm hN (by rw [ok.hN]; exact of_decide_eq_true hi1) hyl
        (sw_true hk hyl w1 (by simpa using w2)) (cI_ok it tg iter ok h4') bo (fun s H C cl fp => cG_ok (ok.blk scope' s H C cl fp) g tg h5') ht (fun s H C cl fp => (cE_ok elt x' (ok.blk scope' s H C cl fp) h7').de) hs
      rw [own2] at R
      have hlen : i < X.N.length := by rw [ok.hN]; exact (List.getElem?_eq_some_iff.mp (of_decide_eq_true hi1)).1
      refine R.weakN fun D σ H hl q => ?_
      refine comp_weak hg htt ?_
      have q1 := asg_weak (G := E) (te := liftE E X.K W (sem F (.comp own it g c elt))) (fun _ _ _ z => z) q
      exact mono_liftE q1 fun v H1 z => by
        obtain ⟨ι, env, d, env', rs, rd, et, hh⟩ := z
        cases et
        exact hh _ (rs.set rd (by rw [hl]; exact hlen)) ⟨by simp, fun j hj => List.getElem?_set_ne (fun z => hj (by simp [Tg.slots, z]))⟩
  | _ => cases h3
theorem setcP_ok (fw : Free W) (ok : XOk G E F N sc sc W X) {i : Nat} {y : Str} {py spos p : Pos} {x : Expr} {gs : List Comprehension} {scope : Scope} {t : Tm} (hk : X.env.scope.kind = .function) (h1 : cG N sc sc (.nm i) (.Name y py) = true) (h2 : cE G N t sc (.ListComp x gs scope p) = true) (h3 : compT t = true) (h4 : swp sc y py p scope = true) :
    DS E X W (.Assign [.Name y py] (.ListComp x gs scope p) spos) (sAsgP (.nm i) (sem F t)) := by
  cases t with
  | comp own it g c elt =>
    have h2 : (match unComp (.ListComp x gs scope p) with
      | some (x, tg, iter, ifs, scope) => blkC N sc scope (ownN N own) && (g.slots.all (fun i => decide (i ∈ own)) && (!setE iter && (cI G N it sc tg iter && (cG N (relS scope sc) scope g tg && ((match ifs with
        | [] => isTrueT c
        | [y] => cE G N c (relS scope sc) y
        | _ => false) && cE G N elt (relS scope sc) x)))))
      | none => false) = true := h2
    cases eu : unComp (.ListComp x gs scope p) with
    | none => rw [eu] at h2; cases h2
    | some q =>
      obtain ⟨x', tg, iter, ifs, scope'⟩ := q
      rw [eu] at h2
      obtain ⟨rfl, rfl, rfl⟩ : x' = x ∧ gs = [⟨tg, iter, ifs, 0⟩] ∧ scope' = scope := by
        unfold unComp at eu
        split at eu
        · rename_i e1 e2 e3 e4 e5 e6 e7
          cases e7; cases eu; exact ⟨rfl, rfl, rfl⟩
        · cases eu
      have h := h2
      obtain ⟨h1', h⟩ := and2 h
      obtain ⟨h2', h⟩ := and2 h
      obtain ⟨h3', h⟩ := and2 h
      obtain ⟨h4', h⟩ := and2 h
      obtain ⟨h5', h⟩ := and2 h
      obtain ⟨h6', h7'⟩ := and2 h
      have bo : BlkOk X.N X.env.scope scope' (ownN N own) := by rw [ok.hN, ok.hsc]; exact blkOk_by h1'
      have hs : ∀ v, foldedSetIterable iter X.env v = pure v := fun v => by cases iter <;> first | rfl | (cases (not_t h3'); done)
      have own2 : (ownN N own).map (·.2) = own := by
        unfold ownN
        rw [List.map_map]
        exact List.map_id _
      have parts : ∃ tt : TT, (∀ (s : Shared) (H : Hp) (C : Addr) (cl : List (Str × Addr)) (fp : List Addr), PTs (X.blk s H scope' (compEnvC scope' cl C X.env) fp) ifs tt) ∧ ∀ σ H Q, liftB E X.K W0 (asBool (sem F c)) σ H Q → tt σ H Q := by
        match ifs, h6' with
        | [], h6' =>
          refine ⟨tYes, fun _ _ _ _ _ => pts_nil, fun σ H Q q => ?_⟩
          have hc : c = .cst (.bl true) := by
            cases c with
            | cst d =>
              cases d with
              | bl b => cases b <;> first | rfl | cases h6'
              | _ => cases h6'
            | _ => cases h6'
          subst hc
          obtain ⟨ι, env, M, rs, S, go⟩ := q
          exact go ι H Ext.refl S
        | [y], h6' => exact ⟨_, fun s H C cl fp => pts_one (cE_ok c y (ok.blk scope' s H C cl fp) h6').dt, fun σ H Q q => q⟩
        | _ :: _ :: _, h6' => cases h6'
      obtain ⟨tt, ht, htt⟩ := parts
      have hN : X.N.Nodup := by rw [ok.hN]; exact ok.nd
      have hg : ∀ i ∈ g.slots, i ∈ own := fun i hi => of_decide_eq_true (List.all_eq_true.mp h2' i hi)
      obtain ⟨hi1, hl1⟩ := and2 h1
      obtain ⟨w1, w2⟩ := and2 h4
      obtain ⟨w0, w1⟩ := and2 w1
      have w0 := eq_of_beq w0
      have hyl : X.env.scope.names.lookup y = some .local := by rw [ok.hsc]; exact w0
      have R := ps_setLc (spos := spos) (te := liftE E X.K W0 (sem F elt)) (g := liftG X.K g) (wi := liftI E X.K W (semIt F it)) ok.calm hN (by rw [ok.hN]; exact of_decide_eq_true hi1) hyl
        (sw_true hk hyl w1 (by simpa using w2)) (cI_ok it tg iter ok h4') bo (fun s H C cl fp => cG_ok (ok.blk scope' s H C cl fp) g tg h5') ht (fun s H C cl fp => (cE_ok elt x' (ok.blk scope' s H C cl fp) h7').de) hs
      rw [own2] at R
      have hlen : i < X.N.length := by rw [ok.hN]; exact (List.getElem?_eq_some_iff.mp (of_decide_eq_true hi1)).1
      refine R.weakN fun D σ H hl q => ?_
      refine comp_weak hg htt ?_
      have q1 := asgP_weak (G := E) (te := liftE E X.K W (sem F (.comp own it g c elt))) (fun _ _ _ z => z) q
      exact mono_liftE q1 fun v H1 z => by
        obtain ⟨ι, env, d, env', rs, rd, et, hh⟩ := z
        cases et
        exact hh _ (rs.set rd (by rw [hl]; exact hlen)) ⟨by simp, fun j hj => List.getElem?_set_ne (fun z => hj (by simp [Tg.slots, z]))⟩
  | _ => cases h3
end
end Q
end

section
set_option Elab.async false
set_option linter.all false
set_option maxRecDepth 100000
set_option maxHeartbeats 4000000
/-! Statements: the look and its proof. -/
namespace Q
open PySem PySem.Spec PyProof.Rows L2
def unA : Stmt → Option (Expr × Expr × Pos)
  | .Assign ts e pos => (match ts with
    | [tg] => some (tg, e, pos)
    | _ => none)
  | _ => none
def unT : Expr → Option (List Expr × Nat × Pos)
  | .Tuple ts k p => some (ts, k, p)
  | _ => none
def unSub : Expr → Option (Expr × Expr × Pos)
  | .Subscript x y p => some (x, y, p)
  | _ => none
theorem unA_eq {s : Stmt} {tg e : Expr} {pos : Pos} (h : unA s = some (tg, e, pos)) : s = .Assign [tg] e pos := by
  cases s with
  | Assign ts e' p =>
    cases ts with
    | nil => cases h
    | cons t r =>
      cases r with
      | nil => cases h; rfl
      | cons _ _ => cases h
  | _ => cases h
theorem unT_eq {e : Expr} {ts : List Expr} {k : Nat} {p : Pos} (h : unT e = some (ts, k, p)) : e = .Tuple ts k p := by
  cases e with
  | Tuple _ _ _ => cases h; rfl
  | _ => cases h
theorem unSub_eq {e x y : Expr} {p : Pos} (h : unSub e = some (x, y, p)) : e = .Subscript x y p := by
  cases e with
  | Subscript _ _ _ => cases h; rfl
  | _ => cases h
section
variable (G : NX) (N : List Str) (sc : Scope)
mutual
def cS : Stm → Stmt → Bool
  | .never, _ => true
  | .asg g t, s => match unA s with
    | some (tg, e, _) => cG N sc sc g tg && (cE G N t sc e && asgB sc tg e t)
    | none => false
  | .asgP g t, s => match unA s with
    | some (tg, e, _) => cG N sc sc g tg && (cE G N t sc e && asgB sc tg e t)
    | none => false
  | .par js es, s => match unA s with
    | some (tg, e, _) => (match unT tg with
      | some (ts, _, _) => (match unT e with
        | some (vs, _, _) => parB N sc js ts vs && cEs G N es sc vs
        | none => false)
      | none => false)
    | none => false
  | .put a i t, s => match unA s with
    | some (tg, e, _) => (match unSub tg with
      | some (x, y, _) => !sliceE y && (!compE e && (cE G N a sc x && (cE G N i sc y && cE G N t sc e)))
      | none => false)
    | none => false
  | .expr t, s => match s with
    | .Expr e _ => !compE e && cE G N t sc e
    | _ => false
  | .ret t, s => match s with
    | .Return r _ => (match r with
      | some e => cE G N t sc e
      | none => false)
    | _ => false
  | .retN, s => match s with
    | .Return r _ => r.isNone
    | _ => false
  | .ite c a b, s => match s with
    | .If x y z _ => cE G N c sc x && (cSs a y && cSs b z)
    | _ => false
  | .for_ it g b, s => match s with
    | .For tg iter body els _ => els.isEmpty && (!setE iter && (cI G N it sc tg iter && (cG N sc sc g tg && cSs b body)))
    | _ => false
  | .while_ c b, s => match s with
    | .While x body els _ => els.isEmpty && (cE G N c sc x && cSs b body)
    | _ => false
  | .pass, s => match s with
    | .Pass _ => true
    | .Expr e _ => docE e
    | _ => false
  | .brk, s => match s with
    | .Break _ => true
    | _ => false
  | .cont, s => match s with
    | .Continue _ => true
    | _ => false
def cSs : Stms → List Stmt → Bool
  | .nil, ss => ss.isEmpty
  | .cons s r, ss => match ss with
    | x :: xs => cS s x && cSs r xs
    | [] => false
end
end
section
variable {G : NX} {E : GX} {F : Nat → List D → Md Rv} {N : List Str} {sc : Scope} {W : WX} {X : Cx} {fuel : Nat}
theorem sole_no {e tg : Expr} {l : Nat} {env : PySem.Env} (h : compE e = false) : swapsWithSole [tg] e l env = pure false := (show swapsWithSole [tg] e l env = swapsWith e (some tg) l env from rfl).trans (sw_no h)
theorem store_no2 {e tg : Expr} {env : PySem.Env} (h : unT e = none) : swappedStores [tg] e env = pure none := by
  cases e with
  | Tuple _ _ _ => cases h
  | _ => cases tg <;> rfl
theorem asg_ok (fw : Free W) (ok : XOk G E F N sc sc W X) (hk : X.env.scope.kind = .function) {g : Tg} {t : Tm} {tg e : Expr} {pos : Pos} (h1 : cG N sc sc g tg = true) (h2 : cE G N t sc e = true) (h3 : asgB sc tg e t = true) : DS E X W (.Assign [tg] e pos) (sAsg g (sem F t)) := by
  have pg := cG_ok ok g tg h1
  have pe := (cE_ok t e ok h2).de
  cases tg with
  | Name y py =>
    have hone : (assignEach [.Name y py] X.env).map (·.2) = [assign (.Name y py) X.env] := rfl
    by_cases hc : compE e = false
    · exact ds_asg (sole_no hc) (by cases e <;> rfl) hone pe pg
    · have hc : compE e = true := by cases q : compE e with
        | true => rfl
        | false => exact absurd q hc
      unfold asgB at h3
      simp only at h3
      rw [hc] at h3
      obtain ⟨h31, h41⟩ := and2 (show (compT t && _) = true from h3)
      cases e with
      | ListComp x gs scope p =>
        cases hw : swp sc y py p scope with
        | false => exact ds_asg ((show swapsWithSole [Expr.Name y py] _ pos.line X.env = swapsWith _ (some (Expr.Name y py)) pos.line X.env from rfl).trans (sw_comp hk ok.hsc hw)) rfl hone pe pg
        | true =>
          cases g with
          | nm i => exact setc_ok fw ok hk h1 h2 h31 hw
          | tp gs => cases h1
      | _ => cases h41
  | Tuple ts k p =>
    have hone : (assignEach [.Tuple ts k p] X.env).map (·.2) = [assign (.Tuple ts k p) X.env] := rfl
    cases hu : unT e with
    | none =>
      have hc : compE e = false := by
        cases e <;> first | rfl | (cases h3; done)
      exact ds_asg (sole_no hc) (store_no2 hu) hone pe pg
    | some q =>
      obtain ⟨vs, k2, p2⟩ := q
      cases unT_eq hu
      have h3 : (match swS sc ts vs with
        | some none => true
        | _ => false) = true := h3
      have : swS sc ts vs = some none := by
        cases hq : swS sc ts vs with
        | none => rw [hq] at h3; cases h3
        | some r =>
          cases r with
          | none => rfl
          | some _ => rw [hq] at h3; cases h3
      exact ds_asg (sole_no rfl) (sw_eq hk ok.hsc this) hone pe pg
  | _ => cases h3
theorem asgP_ok (fw : Free W) (ok : XOk G E F N sc sc W X) (hk : X.env.scope.kind = .function) {g : Tg} {t : Tm} {tg e : Expr} {pos : Pos} (h1 : cG N sc sc g tg = true) (h2 : cE G N t sc e = true) (h3 : asgB sc tg e t = true) : DS E X W (.Assign [tg] e pos) (sAsgP g (sem F t)) := by
  have pg := cG_ok ok g tg h1
  have pe := (cE_ok t e ok h2).de
  cases tg with
  | Name y py =>
    have hone : (assignEach [.Name y py] X.env).map (·.2) = [assign (.Name y py) X.env] := rfl
    by_cases hc : compE e = false
    · exact ds_asgP (sole_no hc) (by cases e <;> rfl) hone pe pg
    · have hc : compE e = true := by cases q : compE e with
        | true => rfl
        | false => exact absurd q hc
      unfold asgB at h3
      simp only at h3
      rw [hc] at h3
      obtain ⟨h31, h41⟩ := and2 (show (compT t && _) = true from h3)
      cases e with
      | ListComp x gs scope p =>
        cases hw : swp sc y py p scope with
        | false => exact ds_asgP ((show swapsWithSole [Expr.Name y py] _ pos.line X.env = swapsWith _ (some (Expr.Name y py)) pos.line X.env from rfl).trans (sw_comp hk ok.hsc hw)) rfl hone pe pg
        | true =>
          cases g with
          | nm i => exact setcP_ok fw ok hk h1 h2 h31 hw
          | tp gs => cases h1
      | _ => cases h41
  | Tuple ts k p =>
    have hone : (assignEach [.Tuple ts k p] X.env).map (·.2) = [assign (.Tuple ts k p) X.env] := rfl
    cases hu : unT e with
    | none =>
      have hc : compE e = false := by
        cases e <;> first | rfl | (cases h3; done)
      exact ds_asgP (sole_no hc) (store_no2 hu) hone pe pg
    | some q =>
      obtain ⟨vs, k2, p2⟩ := q
      cases unT_eq hu
      have h3 : (match swS sc ts vs with
        | some none => true
        | _ => false) = true := h3
      have : swS sc ts vs = some none := by
        cases hq : swS sc ts vs with
        | none => rw [hq] at h3; cases h3
        | some r =>
          cases r with
          | none => rfl
          | some _ => rw [hq] at h3; cases h3
      exact ds_asgP (sole_no rfl) (sw_eq hk ok.hsc this) hone pe pg
  | _ => cases h3
theorem par_ok (ok : XOk G E F N sc sc W X) (hk : X.env.scope.kind = .function) {js : List Nat} {es : Es} {ts vs : List Expr} {k k2 : Nat} {p p2 pos : Pos} (h1 : parB N sc js ts vs = true) (h2 : cEs G N es sc vs = true) : DS E X W (.Assign [.Tuple ts k p] (.Tuple vs k2 p2) pos) (sPar js (semEs F es)) := by
  have pa := cEs_ok es vs ok h2
  have hN : X.N.Nodup := by rw [ok.hN]; exact ok.nd
  unfold parB at h1
  split at h1
  · obtain ⟨q1, h1⟩ := and2 h1
    obtain ⟨q2, h1⟩ := and2 h1
    obtain ⟨q3, h1⟩ := and2 h1
    obtain ⟨q4, h1⟩ := and2 h1
    obtain ⟨q5, q6⟩ := and2 h1
    have q1 := of_decide_eq_true q1
    have q2 := of_decide_eq_true q2
    refine ds_par2 (es := []) (by rw [ok.hN]; exact (List.getElem?_eq_some_iff.mp q1).1) (by rw [ok.hN]; exact (List.getElem?_eq_some_iff.mp q2).1)
      (ps_par ok.calm hN (by rw [ok.hN]; exact q1) (by rw [ok.hN]; exact q2) (of_decide_eq_true q3) (by rw [ok.hsc]; exact of_decide_eq_true q4) (by rw [ok.hsc]; exact of_decide_eq_true q5) pa (sw_eq hk ok.hsc (of_decide_eq_true q6)))
  · obtain ⟨q1, h1⟩ := and2 h1
    obtain ⟨q2, h1⟩ := and2 h1
    obtain ⟨q3, h1⟩ := and2 h1
    obtain ⟨r1, h1⟩ := and2 h1
    obtain ⟨r2, h1⟩ := and2 h1
    obtain ⟨r3, h1⟩ := and2 h1
    obtain ⟨q4, h1⟩ := and2 h1
    obtain ⟨q5, h1⟩ := and2 h1
    obtain ⟨q6, q7⟩ := and2 h1
    have q1 := of_decide_eq_true q1
    have q2 := of_decide_eq_true q2
    have q3 := of_decide_eq_true q3
    refine ds_par3 (es := []) (by rw [ok.hN]; exact (List.getElem?_eq_some_iff.mp q1).1) (by rw [ok.hN]; exact (List.getElem?_eq_some_iff.mp q2).1) (by rw [ok.hN]; exact (List.getElem?_eq_some_iff.mp q3).1)
      (ps_par3 ok.calm hN (by rw [ok.hN]; exact q1) (by rw [ok.hN]; exact q2) (by rw [ok.hN]; exact q3) (of_decide_eq_true r1) (of_decide_eq_true r2) (of_decide_eq_true r3) (by rw [ok.hsc]; exact of_decide_eq_true q4) (by rw [ok.hsc]; exact of_decide_eq_true q5) (by rw [ok.hsc]; exact of_decide_eq_true q6) pa (sw_eq hk ok.hsc (of_decide_eq_true q7)))
  · cases h1
mutual
theorem cS_ok (fw : Free W) (ok : XOk G E F N sc sc W X) (hk : X.env.scope.kind = .function) : ∀ (s : Stm) (x : Stmt), cS G N sc s x = true → DS E X W x (exec F fuel s)
  | .never, _, _ => ds_never
  | .asg g t, x, h => by
    unfold cS at h
    cases hu : unA x with
    | none => rw [hu] at h; cases h
    | some q =>
      obtain ⟨tg, e, pos⟩ := q
      rw [hu] at h
      cases unA_eq hu
      obtain ⟨h1, h⟩ := and2 h
      obtain ⟨h2, h3⟩ := and2 h
      exact asg_ok fw ok hk h1 h2 h3
  | .asgP g t, x, h => by
    unfold cS at h
    cases hu : unA x with
    | none => rw [hu] at h; cases h
    | some q =>
      obtain ⟨tg, e, pos⟩ := q
      rw [hu] at h
      cases unA_eq hu
      obtain ⟨h1, h⟩ := and2 h
      obtain ⟨h2, h3⟩ := and2 h
      exact asgP_ok fw ok hk h1 h2 h3
  | .par js es, x, h => by
    unfold cS at h
    cases hu : unA x with
    | none => rw [hu] at h; cases h
    | some q =>
      obtain ⟨tg, e, pos⟩ := q
      rw [hu] at h
      simp only at h
      cases unA_eq hu
      cases ht : unT tg with
      | none => rw [ht] at h; cases h
      | some q =>
        obtain ⟨ts, k, p⟩ := q
        rw [ht] at h
        simp only at h
        cases hv : unT e with
        | none => rw [hv] at h; cases h
        | some q =>
          obtain ⟨vs, k2, p2⟩ := q
          rw [hv] at h
          cases unT_eq ht
          cases unT_eq hv
          obtain ⟨h1, h2⟩ := and2 h
          exact par_ok ok hk h1 h2
  | .put a i t, x, h => by
    unfold cS at h
    cases hu : unA x with
    | none => rw [hu] at h; cases h
    | some q =>
      obtain ⟨tg, e, pos⟩ := q
      rw [hu] at h
      simp only at h
      cases unA_eq hu
      cases ht : unSub tg with
      | none => rw [ht] at h; cases h
      | some q =>
        obtain ⟨y, z, p⟩ := q
        rw [ht] at h
        cases unSub_eq ht
        obtain ⟨h1, h⟩ := and2 h
        obtain ⟨h2, h⟩ := and2 h
        obtain ⟨h3, h⟩ := and2 h
        obtain ⟨h4, h5⟩ := and2 h
        exact ds_put (sole_no (not_t h2)) (by cases e <;> rfl) (plainAssign_of (not_t h1) _ _ _) (cE_ok a y ok h3).de (cE_ok i z ok h4).de (cE_ok t e ok h5).de
  | .expr t, x, h => by
    unfold cS at h
    cases x with
    | Expr e p =>
      obtain ⟨h1, h2⟩ := and2 h
      exact ds_expr (sw_no (not_t h1)) (cE_ok t e ok h2).de
    | _ => cases h
  | .ret t, x, h => by
    unfold cS at h
    cases x with
    | Return r p =>
      cases r with
      | some e => exact ds_ret (cE_ok t e ok h).de
      | none => cases h
    | _ => cases h
  | .retN, x, h => by
    unfold cS at h
    cases x with
    | Return r p =>
      cases r with
      | some e => cases h
      | none => exact ds_retN
    | _ => cases h
  | .ite c a b, x, h => by
    unfold cS at h
    cases x with
    | If y z w p =>
      obtain ⟨h1, h⟩ := and2 h
      obtain ⟨h2, h3⟩ := and2 h
      exact ds_if (cE_ok c y ok h1).dt (cSs_ok fw ok hk a z h2) (cSs_ok fw ok hk b w h3)
    | _ => cases h
  | .for_ it g b, x, h => by
    unfold cS at h
    cases x with
    | For tg iter body els p =>
      obtain ⟨h0, h⟩ := and2 h
      obtain ⟨h1, h⟩ := and2 h
      obtain ⟨h2, h⟩ := and2 h
      obtain ⟨h3, h4⟩ := and2 h
      cases els with
      | cons _ _ => cases h0
      | nil => exact ds_for fw ok.po ok.calm (fun v => by cases iter <;> first | rfl | (cases (not_t h1); done)) (cI_ok it tg iter ok h2) (cG_ok ok g tg h3) (cSs_ok fw ok hk b body h4)
    | _ => cases h
  | .while_ c b, x, h => by
    unfold cS at h
    cases x with
    | While y body els p =>
      obtain ⟨h0, h⟩ := and2 h
      obtain ⟨h1, h2⟩ := and2 h
      cases els with
      | cons _ _ => cases h0
      | nil => exact ds_while fw ok.po (cE_ok c y ok h1).dt (cSs_ok fw ok hk b body h2)
    | _ => cases h
  | .pass, x, h => by
    unfold cS at h
    cases x with
    | Pass p => exact ds_pass
    | Expr e p =>
      cases e with
      | Constant c j q =>
        cases c with
        | str s => exact ds_doc
        | _ => cases h
      | _ => cases h
    | _ => cases h
  | .brk, x, h => by
    unfold cS at h
    cases x with
    | Break p => exact ds_break
    | _ => cases h
  | .cont, x, h => by
    unfold cS at h
    cases x with
    | Continue p => exact ds_cont
    | _ => cases h
theorem cSs_ok (fw : Free W) (ok : XOk G E F N sc sc W X) (hk : X.env.scope.kind = .function) : ∀ (s : Stms) (x : List Stmt), cSs G N sc s x = true → DSs E X W x (execs F fuel s)
  | .nil, x, h => by
    cases x with
    | nil => exact dss_nil
    | cons _ _ => cases h
  | .cons s r, x, h => by
    cases x with
    | nil => cases h
    | cons y ys =>
      obtain ⟨h1, h2⟩ := and2 h
      exact dss_cons fw (cS_ok fw ok hk s y h1) (cSs_ok fw ok hk r ys h2)
end
end
end Q
end

section
set_option Elab.async false
set_option linter.all false
set_option maxRecDepth 100000
set_option maxHeartbeats 4000000
/-! Defs and texts: each def computes what the interpreter says. -/
namespace Q
open PySem PySem.Spec PyProof.Rows L2
theorem start_rep {K : PySem.W.Frag} {ι : Pl} {H : Hp} {vs : List V} {ds : List D} {N : List Str} {k : Nat} (r : Reps K ι H vs ds) : RepSt K ι H (L2.start N vs) (ds.map some ++ List.replicate k none) := fun i d h => by
  by_cases hi : i < (ds.map some).length
  · rw [List.getElem?_append_left hi, List.getElem?_map] at h
    cases e : ds[i]? with
    | none => rw [e] at h; cases h
    | some d' =>
      rw [e] at h
      obtain rfl : d' = d := Option.some.inj (Option.some.inj h)
      obtain ⟨v, h1, h2⟩ := r.get e
      refine ⟨v, ?_, h2⟩
      unfold L2.start
      have hv : i < vs.length := (List.getElem?_eq_some_iff.mp h1).1
      rw [List.getElem?_append_left (by rw [List.length_map]; exact hv), List.getElem?_map, h1]; rfl
  · rw [List.getElem?_append_right (by omega), List.getElem?_replicate] at h
    split at h <;> cases h
/-- a def of the text -/
structure TD where
  name : Str
  top : Stmt
  N : List Str
  df : Df
abbrev TD.ps (t : TD) : List Str := t.N.take t.df.ar
abbrev TD.sc (t : TD) : Scope := defScope t.top
def scopeB (N ps : List Str) (sc : Scope) : Bool := (match sc.kind with
  | .function => true
  | _ => false) && (!sc.isCoroutine && (!sc.isGenerator && (decide N.Nodup && (decide (N.take ps.length = ps) && (ps.all (fun x => (match sc.names.lookup x with
    | some .local => true | some .cell => true | _ => false)) && sc.names.all fun y => (match y.2 with
    | .free => false | _ => true))))))
theorem scopeB_ok {N ps : List Str} {sc : Scope} (h : scopeB N ps sc = true) : FnScope N ps sc := by
  obtain ⟨h1, h⟩ := and2 h
  obtain ⟨h2, h⟩ := and2 h
  obtain ⟨h3, h⟩ := and2 h
  obtain ⟨h4, h⟩ := and2 h
  obtain ⟨h5, h⟩ := and2 h
  obtain ⟨h6, h7⟩ := and2 h
  refine ⟨?_, not_t h2, not_t h3, of_decide_eq_true h4, of_decide_eq_true h5, fun x hx => ?_, fun y hy e => ?_⟩
  · cases e : sc.kind <;> first | rfl | (rw [e] at h1; cases h1)
  · have q := List.all_eq_true.mp h6 x hx
    cases e : sc.names.lookup x with
    | none => rw [e] at q; cases q
    | some k => rw [e] at q; cases k <;> first | exact .inl rfl | exact .inr rfl | cases q
  · have q := List.all_eq_true.mp h7 y hy
    rw [e] at q; cases q
def TD.okB (G : NX) (t : TD) : Bool := scopeB t.N t.ps t.sc && (decide (t.ps.length = t.df.ar) && (Nat.beq t.N.length t.df.sl && cSs G t.N t.sc t.df.body (defBody t.top)))
def tabOf (l : List TD) : Nat → Option Df := fun i => (l[i]?).map (·.df)
/-- what is known of the text in the heap behind its top -/
structure Txt (G : NX) (l : List TD) (K : PySem.W.Frag) (mg : Str → Option Value) : Prop where
  ok : l.all (TD.okB G) = true
  fd : ∀ (i : Nat) (t : TD), l[i]? = some t → ∃ f fd, FunD K t.name t.name (defArgs t.top) (defBody t.top) (defScope t.top) [] [] f fd ∧ mg t.name = some (.ref f) ∧ Binds K fd t.ps []
  fns : ∀ x f n, (x, f, n) ∈ G.fns → ∃ t, l[f]? = some t ∧ t.name = x ∧ t.df.ar = n
  cst : ∀ x d, (x, d) ∈ G.consts → ∃ u v, mg x = some u ∧ RelV v u ∧ ∀ ι H, Rep K ι H v d
  free : ∀ x, x ∈ G.free → mg x = none
  bfs : ∀ x b, (x, b) ∈ G.bfs → mg x = some (bltA b)
theorem FunD.kp' {K : PySem.W.Frag} {x qual : Str} {params : Arguments} {body : List Stmt} {scope : Scope} {f : Addr} {fd : FuncData} (F : FunD K x qual params body scope [] [] f fd) : PySem.W.keepIn K (.ref f) = true := F.kp
theorem phi_len {fuel : Nat} {T : Nat → Option Df} {k f : Nat} {d : Df} {ds : List D} {M : Ar} (h : T f = some d) (hl : ds.length ≠ d.ar) : Phi fuel T k f ds M = .stuck := by
  cases k with
  | zero => rfl
  | succ k =>
    unfold Phi
    rw [h]
    show runBody _ _ d ds M = _
    unfold runBody
    rw [if_neg hl]; rfl
section
variable {G : NX} {E : GX} {l : List TD} {P : Program} {w : World} {K : PySem.W.Frag} {mg : Str → Option Value} {base : Heap} {fuel : Nat}
theorem TD.run (X : Txt G l K mg) : ∀ (k i : Nat) (t : TD), l[i]? = some t → ∃ f fd, mg t.name = some (.ref f) ∧ PySem.W.keepIn K (.ref f) = true ∧ Binds K fd t.ps [] ∧
    FunD K t.name t.name (defArgs t.top) (defBody t.top) (defScope t.top) [] [] f fd ∧ FnOk P w K mg base (L2.CX P w) k f fd t.ps (spD E K t.df.ar (Phi fuel (tabOf l) k i)) := by
  intro k
  induction k with
  | zero =>
    intro i t ht
    obtain ⟨f, fd, F, g, b⟩ := X.fd i t ht
    refine ⟨f, fd, g, F.kp, b, F, ⟨fun vs H Q E' h => ?_, fun A outer s H args us vs Q E' _ _ _ _ h => ?_⟩⟩
    · obtain ⟨_, ι, M, ds, _, _, h⟩ := h; exact False.elim h
    · obtain ⟨_, ι, M, ds, _, _, h⟩ := h; exact False.elim h
  | succ k ih =>
    intro i t ht
    obtain ⟨f, fd, F, g, b⟩ := X.fd i t ht
    refine ⟨f, fd, g, F.kp, b, F, ?_⟩
    have hok := List.all_eq_true.mp X.ok t (List.mem_of_getElem? ht)
    obtain ⟨h1, h⟩ := and2 hok
    obtain ⟨h2, h⟩ := and2 h
    obtain ⟨h3, h4⟩ := and2 h
    have S := scopeB_ok h1
    have h2 := of_decide_eq_true h2
    refine F.ok S (fun vs H Q E' h => h.1.trans h2.symm) fun cdv A outer s H vs Q E' hr h => ?_
    obtain ⟨hl, ι, M, ds, rp, Sm, h⟩ := h
    have hT : tabOf l i = some t.df := by unfold tabOf; rw [ht]; rfl
    have ok : XOk G E (Phi fuel (tabOf l) k) t.N t.sc t.sc (fun cls d _ H => E' cls d H) (cxOf (L2.CX P w) P w K mg base t.N t.name (defScope t.top) f cdv A outer s H E') := {
      hsc := rfl
      hN := rfl
      nd := S.nd
      calm := rfl
      tk := takes_of rfl rfl rfl rfl
      po := passes_of rfl
      room := by have := hr.un; show (A.deeper _).units + 65 < cLine; omega
      fn := fun _ _ => rfl
      cst := X.cst
      free := X.free
      bfs := X.bfs
      fun_ := fun x j n hx => by
        obtain ⟨t', ht', hn, ha⟩ := X.fns x j n hx
        obtain ⟨f', fd', g', kp', b', F', ok'⟩ := ih j t' ht'
        rw [ha] at ok'
        refine ⟨k, f', fd', t'.ps, ok', hr, ?_, kp', b', fun ds M hd => ?_⟩
        · rw [← hn]; exact g'
        · exact phi_len (d := t'.df) (by unfold tabOf; rw [ht']; rfl) (by rw [ha]; exact hd) }
    refine ⟨_, cSs_ok (fuel := fuel) (fun _ _ _ _ _ z => z) ok S.kind t.df.body (defBody t.top) h4, ι, ds.map some ++ List.replicate (t.df.sl - ds.length) none, M, start_rep rp, Sm, ?_⟩
    have hd : ds.length = t.df.ar := by rw [← rp.length]; exact hl
    have hp : Phi fuel (tabOf l) (k + 1) i ds M = bnd (execs (Phi fuel (tabOf l) k) fuel t.df.body (ds.map some ++ List.replicate (t.df.sl - ds.length) none)) retF M := by
      show (match tabOf l i with | some d => runBody (Phi fuel (tabOf l) k) fuel d ds | none => stk) M = _
      rw [hT]
      show runBody _ _ _ _ _ = _
      unfold runBody
      rw [if_pos hd]
    rw [hp] at h
    have conv : ∀ x : Out Rv, (match x with
      | .ok r M' => ∀ ι' v H', Ext K ι H ι' H' → RepR K H ι' H' v r → Sim K ι' H' M' → Q v H'
      | .exc c p M' => ∀ ι' cls oe H', Ext K ι H ι' H' → Sim K ι' H' M' → E.ea K ι' H' c p cls oe → E' cls oe H'
      | .stuck => False) → GoX E K (fun cls d _ H => E' cls d H) (L2.start t.N vs) ι H x (fun r M' => ∀ ι' v H', Ext K ι H ι' H' → RepR K H ι' H' v r → Sim K ι' H' M' → Q v H') := fun x h => by
      cases x <;> exact h
    have h' : GoX E K (fun cls d _ H => E' cls d H) (L2.start t.N vs) ι H (bnd (execs (Phi fuel (tabOf l) k) fuel t.df.body (ds.map some ++ List.replicate (t.df.sl - ds.length) none)) retF M) (fun r M' => ∀ ι' v H', Ext K ι H ι' H' → RepR K H ι' H' v r → Sim K ι' H' M' → Q v H') := conv _ h
    refine h'.bnd.mono fun fl M1 h2 => ?_
    cases fl with
    | nx e =>
      have h2 : ∀ ι' v H', Ext K ι H ι' H' → RepR K H ι' H' v (.d .non) → Sim K ι' H' M1 → Q v H' := h2
      exact fun ι' σ' H' e' _ S' => h2 ι' .non H' e' .non S'
    | rt r => exact (show ∀ ι' v H', Ext K ι H ι' H' → RepR K H ι' H' v r → Sim K ι' H' M1 → Q v H' from h2)
    | bk e => exact False.elim h2
    | ct e => exact False.elim h2
end
end Q
end

section
set_option Elab.async false
set_option linter.all false
set_option maxRecDepth 100000
set_option maxHeartbeats 4000000
/-! The head: what the text's names are behind its top, the law's call. -/
namespace Q
open PySem PySem.Spec PyProof.Rows L2
/-! ### a Hook with values told outright -/
def glB (gs : List (Str × Value)) (K : PySem.W.Frag) : Bool := gs.all fun p => He.eqO (PySem.W.nsIn K mainGlobals p.1) (some (some p.2))
def obsQ (gs : List (Str × Value)) (fa : List He.Fa) (fn : List He.DefD) (K : PySem.W.Frag) : Bool × He.AlD := (glB gs K, He.obsD fa fn K)
def valQ (fn : List He.DefD) : Bool × He.AlD := (true, He.valD fn)
def hookQ (n : Nat) (gs : List (Str × Value)) (fa : List He.Fa) (fn : List He.DefD) : PySem.W.Hook where
  α := Bool × He.AlD
  obs := fun s => obsQ gs fa fn (He.frG s.heap.get? (He.asD s.heap.get? n))
  val := fun _ => valQ fn
  says := fun _ h => ∃ K : PySem.W.Frag, K.In h ∧ obsQ gs fa fn K = valQ fn
  of := fun _ _ e => ⟨_, He.frG_in, e⟩
  keeps := fun _ _ _ ⟨K, hK, c⟩ k => ⟨K, PySem.W.Frag.In.keeps hK k, c⟩
def obQ (n : Nat) (gs : List (Str × Value)) (fa : List He.Fa) (fn : List He.DefD) (s : PySem.W.SharedT) : Bool × He.AlD := obsQ gs fa fn (He.frG (HandSHeadRun.getT s) (He.asD (HandSHeadRun.getT s) n))
theorem obQ_eq {n : Nat} {gs : List (Str × Value)} {fa : List He.Fa} {fn : List He.DefD} (s : PySem.W.SharedT) : obQ n gs fa fn s = (hookQ n gs fa fn).obs s.abs := by
  have e : HandSHeadRun.getT s = s.abs.heap.get? := funext (HandSHeadRun.getT_eq s)
  unfold obQ
  rw [e] <;> rfl
/-! ### the facts asked for -/
def TD.dd (t : TD) : He.DefD := ⟨(t.name, none), t.name, t.name, defArgs t.top, defBody t.top, defScope t.top, [], []⟩
def faC (p : Str × D) : He.Fa := match p.2 with
  | .int i => .int p.1 i
  | .str s => .str p.1 ⟨s.toArray⟩
  | _ => .free p.1
def flatD : D → Bool
  | .int _ => true
  | .str _ => true
  | _ => false
def faQ (G : NX) (l : List TD) : List He.Fa := l.map (fun t => He.Fa.glo t.name) ++ (G.free.map He.Fa.free ++ G.consts.map faC)
def gsQ (G : NX) : List (Str × Value) := G.bfs.map fun p => (p.1, bltA p.2)
/-- the binding of a def's arguments -/
def BindT (t : TD) : Prop := ∀ (kV doc pm : Value) (an : Option Addr) (cdv ct : Value) (us : List Value), us.length = t.ps.length → bindArgs (PySem.W.fnOf t.name t.name (defArgs t.top) (defBody t.top) (defScope t.top) .none kV doc pm an cdv ct) ⟨us, []⟩ = pure (t.ps.zip us)
def BindTs : List TD → Prop
  | [] => True
  | t :: ts => BindT t ∧ BindTs ts
theorem BindTs.get : ∀ {l : List TD} {i : Nat} {t : TD}, BindTs l → l[i]? = some t → BindT t
  | [], _, _, _, h => by simp at h
  | t :: ts, 0, t', h, e => by
    cases e; exact h.1
  | t :: ts, i + 1, t', h, e => BindTs.get h.2 e
def fnsB (G : NX) (l : List TD) : Bool := G.fns.all fun p => match l[p.2.1]? with
  | some t => decide (t.name = p.1) && Nat.beq t.df.ar p.2.2
  | none => false
section
variable {G : NX} {l : List TD} {K : PySem.W.Frag} {mg : Str → Option Value} {h : Heap}
theorem fn_at {i : Nat} {t : TD} (e : l[i]? = some t) : (l.map TD.dd)[i]? = some t.dd := by rw [List.getElem?_map, e]; rfl
theorem txt_of (X : K.In h) (N : h.Ns mainGlobals mg) (c : obsQ (gsQ G) (faQ G l) (l.map TD.dd) K = valQ (l.map TD.dd)) (hB : BindTs l) (ok : l.all (TD.okB G) = true) (hf : fnsB G l = true) (hc : G.consts.all (fun p => flatD p.2) = true) : Txt G l K mg := by
  have c1 : glB (gsQ G) K = true := congrArg (fun z : Bool × He.AlD => z.1) c
  have c2 : He.SaysD (faQ G l) (l.map TD.dd) K := congrArg (fun z : Bool × He.AlD => z.2) c
  have fact : ∀ f : He.Fa, f ∈ faQ G l → f.ok K = true := fun f hf => by
    obtain ⟨i, hi⟩ := List.mem_iff_getElem?.mp hf
    exact c2.fact i hi
  refine ⟨ok, fun i t ht => ?_, fun x f n hx => ?_, fun x d hx => ?_, fun x hx => ?_, fun x b hx => ?_⟩
  · obtain ⟨fd, F⟩ := c2.def_ i (fn_at ht)
    have F : FunD K t.name t.name (defArgs t.top) (defBody t.top) (defScope t.top) [] [] (He.fAd K (t.name, none)) fd := F
    have g := He.glo_ok X N (fact (.glo t.name) (List.mem_append_left _ (List.mem_map.mpr ⟨t, List.mem_of_getElem? ht, rfl⟩)))
    exact ⟨_, fd, F, g, F.bindsN (hB.get ht)⟩
  · have q := List.all_eq_true.mp hf (x, f, n) hx
    simp only at q
    cases e : l[f]? with
    | none => rw [e] at q; cases q
    | some t =>
      rw [e] at q
      obtain ⟨q1, q2⟩ := and2 q
      exact ⟨t, rfl, of_decide_eq_true q1, Nat.eq_of_beq_eq_true q2⟩
  · have q : flatD d = true := List.all_eq_true.mp hc (x, d) hx
    have m : faC (x, d) ∈ faQ G l := List.mem_append_right _ (List.mem_append_right _ (List.mem_map.mpr ⟨(x, d), hx, rfl⟩))
    have fo := fact _ m
    cases d with
    | int i =>
      obtain ⟨t, e⟩ := He.int_ok X N fo
      exact ⟨_, .int i, e, ⟨t, rfl⟩, fun _ _ => .int i⟩
    | str s =>
      obtain ⟨t, e⟩ := He.str_ok X N fo
      exact ⟨_, .str ⟨s.toArray⟩, e, ⟨t, rfl⟩, fun _ _ => .str s⟩
    | _ => cases q
  · exact He.free_ok X N (fact (.free x) (List.mem_append_right _ (List.mem_append_left _ (List.mem_map.mpr ⟨x, hx, rfl⟩))))
  · have m : (x, bltA b) ∈ gsQ G := List.mem_map.mpr ⟨(x, b), hx, rfl⟩
    exact PySem.W.mg_of X N (He.eqO_ok (List.all_eq_true.mp c1 _ m))
end
def GE : GX := ⟨[], [], [], fun _ _ _ _ _ _ _ => False⟩
theorem reps_ints {K : PySem.W.Frag} {ι : Pl} {H : Hp} : ∀ ns : List Int, Reps K ι H (ns.map V.int) (ns.map D.int)
  | [] => .nil
  | n :: ns => .cons (.int n) (reps_ints ns)
theorem fz_of {K : PySem.W.Frag} {H : Hp} {a : Addr} {xs : List V} (o : L2.Only H) (h : SqL K H a xs) : FzL K H a xs := by
  rcases h with (h | ⟨ob, h⟩) | h
  · rcases o a with z | ⟨o', ys, z⟩
    · rw [h] at z; cases z
    · rw [h] at z; cases z
  · exact .inl ⟨ob, h⟩
  · exact .inr h
/-- THE LAW: the head's run, the text's look, the law's own reckoning give the row's walk -/
theorem walk_q {lw : PySem.W.OpenLaw} {n k : Nat} {q : Program} {loose : List Str} {XP : (Str → Option Value) → Heap → Prop} {d : DefRec} {G : NX} {l : List TD} {li m fuel : Nat} {t : TD} {x : Str}
    (hn : lw.most = some n) (hn2 : n ≤ sizeLine) (hdf : d.params.defaults = []) (hr : Room k callerA) (hB : BindTs l) (ok : l.all (TD.okB G) = true) (hf : fnsB G l = true) (hc : G.consts.all (fun p => flatD p.2) = true)
    (ht : l[li]? = some t) (hnm : d.name = t.name) (hps : t.ps = [x]) (har : t.df.ar = 1)
    (law : ∀ ns : List Int, ns.length ≤ n → ∃ M, Phi fuel (tabOf l) k li [.rl (ns.map D.int)] [] = .ok (.d (.bl true)) M) :
    PySem.W.WalkO q loose XP (hookQ m (gsQ G) (faQ G l) (l.map TD.dd)).says lw.row.toRowW d [] (fun f vs => PySem.call f vs) := by
  refine Att.attach_call hn hdf fun w s₀ s₁ mg mb fa o pm cd doc a vs ns Gd Y ho hd hcd hmg hobj hints hlen hg => ?_
  obtain ⟨K, KX, c⟩ := Y
  have T := txt_of KX Gd.T.g c hB ok hf hc
  have c2 : He.SaysD (faQ G l) (l.map TD.dd) K := congrArg (fun z : Bool × He.AlD => z.2) c
  obtain ⟨fd, F⟩ := c2.def_ li (fn_at ht)
  have F : FunD K t.name t.name (defArgs t.top) (defBody t.top) (defScope t.top) [] [] (He.fAd K (t.name, none)) fd := F
  have g := He.glo_ok KX Gd.T.g (c2.fact li (f := .glo t.name) (by
    show (faQ G l)[li]? = _
    unfold faQ
    rw [List.getElem?_append_left (by rw [List.length_map]; exact (List.getElem?_eq_some_iff.mp ht).1), List.getElem?_map, ht]; rfl))
  rw [hnm] at hmg
  have efa : fa = He.ga K t.name := by
    have e := hmg.symm.trans g
    cases e; rfl
  have bA := FunD.bindsA (ps := t.ps) F (hB.get ht)
  refine law_call (sp := spD GE K 1 (Phi fuel (tabOf l) k li)) (fd := fd) (x := x) (CX := L2.CX lw.prog w) KX Gd.T.g Gd.T.b Gd.T.builtins Gd.T.nolimit hg hobj hints (Nat.le_trans hlen hn2) hr (fun base _ _ => ?_) (fun s u => ?_) (fun H hO hS => ?_) fun H e s' hcx => ?_
  · obtain ⟨f, fd', g', kp, b, F', ok'⟩ := TD.run (E := GE) (P := lw.prog) (w := w) (base := base) (fuel := fuel) T k li t ht
    have ef : f = He.ga K t.name := by
      have e := g'.symm.trans g
      cases e; rfl
    have efd : fd' = fd := by
      obtain ⟨oc, od, dV, kV, doc, pm, an, cdv, ct, osl, rfl, lk, _⟩ := F'.ex
      obtain ⟨oc2, od2, dV2, kV2, doc2, pm2, an2, cdv2, ct2, osl2, rfl, lk2, _⟩ := F.ex
      have e : He.fAd K (t.name, none) = f := by rw [ef]; rfl
      rw [e] at lk2
      rw [lk] at lk2
      injection lk2 with z
      injection z with z1 z2 z3 z4
      injection z3
    rw [efa, ← ef, ← efd, ← hps, ← har]
    exact ok'
  · have := bA s [u] (by rw [hps]; rfl)
    rw [hps] at this
    exact this
  · obtain ⟨M, e⟩ := law ns hlen
    refine ⟨rfl, ⟨[], fun _ => False⟩, [], [.rl (ns.map D.int)], .cons (.rl (fz_of hO hS) (reps_ints ns)) .nil, ⟨List.nodup_nil, rfl, fun n a o h => by simp at h, fun n a h => by simp at h, fun a h => h.elim⟩, ?_⟩
    rw [e]
    intro ι' v H' _ r _
    cases r; rfl
  · obtain ⟨_, _, _, _, _, _, _, _, _, _, _, _, z⟩ := hcx
    exact z
end Q
end

section
set_option linter.all false
/-! The interpreter as the plain proofs see it: what must hold behind a run, for all draws. -/
namespace Q
abbrev PT (α : Type) := Ar → (α → Ar → Prop) → (Nat → D → Ar → Prop) → Prop
section
variable {α β : Type}
def retN (a : α) : PT α := fun M R _ => R a M
def bndN (x : PT α) (f : α → PT β) : PT β := fun M R X => x M (fun a M' => f a M' R X) X
def stkN : PT α := fun _ _ _ => False
/-- what is reckoned outright -/
def dN (x : Md α) : PT α := fun M R X => match x M with
  | .ok a M' => R a M'
  | .exc c p M' => X c p M'
  | .stuck => False
def optN (f : Ar → Option α) : PT α := dN (opt f)
def noExcN (y : PT α) : PT α := fun M R _ => y M R fun _ _ _ => False
def truncN (y : PT Rv) : PT Rv := fun M R X => y M (fun r M' => match trunc M (.ok r M') with
  | .ok r' M'' => R r' M''
  | .exc c p M'' => X c p M''
  | .stuck => False) X
end
def asBN (r : Rv) : PT Bool := dN (asB r)
def settleN (r : Rv) : PT D := dN (settle r)
def placeN (r : Rv) : PT D := dN (place r)
def partN (b : Bool) (x : Rv) : PT (Option Int) := dN (partM b x)
def getVN (env : Env) (i : Nat) : PT Rv := dN (getV env i)
def isRefN (d : D) : PT Unit := dN (isRefM d)
def methodN (m : Mth) (x : D) (xs : List D) : PT Rv := dN (method m x xs)
def putAtN (x y : Rv) (d : D) : PT Unit := dN (putAt x y d)
def compLN (f : D → PT (Option D)) : List D → List D → PT (List D)
  | [], acc => retN acc.reverse
  | x :: xs, acc => bndN (f x) fun
    | some d => if acc.length < line then compLN f xs (d :: acc) else stkN
    | none => compLN f xs acc
def compDN (f : D → PT (Option D)) (y : Itv) : Nat → Nat → List D → PT (List D)
  | i, 0, acc => bndN (optN fun M => itLen M y) fun l => if l ≤ i then retN acc.reverse else stkN
  | i, k + 1, acc => bndN (optN fun M => itNth M i y) fun x => bndN (f x) (fun
      | some d => if acc.length < line then compDN f y (i + 1) k (d :: acc) else stkN
      | none => compDN f y (i + 1) k acc)
def forLN (f : D → Env → PT Fl) : List D → Env → PT Fl
  | [], env => retN (.nx env)
  | x :: xs, env => bndN (f x env) fun
    | .nx e => forLN f xs e
    | .ct e => forLN f xs e
    | .bk e => retN (.nx e)
    | .rt r => retN (.rt r)
def forDN (f : D → Env → PT Fl) (y : Itv) : Nat → Nat → Env → PT Fl
  | i, 0, env => bndN (optN fun M => itLen M y) fun l => if l ≤ i then retN (.nx env) else stkN
  | i, k + 1, env => bndN (optN fun M => itNth M i y) fun x => bndN (f x env) (fun
      | .nx e => forDN f y (i + 1) k e
      | .ct e => forDN f y (i + 1) k e
      | .bk e => retN (.nx e)
      | .rt r => retN (.rt r))
def whileN (c : Env → PT Bool) (f : Env → PT Fl) : Nat → Env → PT Fl
  | 0, _ => stkN
  | n + 1, env => bndN (c env) fun
    | false => retN (.nx env)
    | true => bndN (f env) fun
      | .nx e => whileN c f n e
      | .ct e => whileN c f n e
      | .bk e => retN (.nx e)
      | .rt r => retN (.rt r)
def compAllN (f : D → PT (Option D)) : Itv → PT (List D)
  | .st ds => if ds.length ≤ line then compLN f ds [] else stkN
  | iv => bndN (optN fun M => itLen M iv) fun k => if k ≤ line then compDN f iv 0 k [] else stkN
def forAllN (f : D → Env → PT Fl) (iv : Itv) (env : Env) : PT Fl := match iv with
  | .st ds => if ds.length ≤ line then forLN f ds env else stkN
  | iv => bndN (optN fun M => itLen M iv) fun k => if k ≤ line then forDN f iv 0 k env else stkN
section
variable (F : Nat → List D → PT Rv) (fuel : Nat)
mutual
def semN : Tm → Env → PT Rv
  | .var i, env => getVN env i
  | .cst d, _ => retN (.d d)
  | .neg a, env => bndN (semN a env) fun
    | .d (.int i) => retN (.d (.int (-i)))
    | _ => stkN
  | .nt a, env => bndN (bndN (semN a env) asBN) fun b => retN (.d (.bl (!b)))
  | .bin o a b, env => bndN (semN a env) fun x => bndN (semN b env) fun y => optN (binop o x y)
  | .cmp o a b, env => bndN (semN a env) fun x => bndN (semN b env) fun y => bndN (optN (cmpop o x y)) fun r => retN (.d (.bl r))
  | .chain o p a b c, env => bndN (semN a env) fun x => bndN (semN b env) fun y => bndN (optN (cmpop o x y)) fun
    | true => bndN (semN c env) fun z => bndN (optN (cmpop p y z)) fun r => retN (.d (.bl r))
    | false => retN (.d (.bl false))
  | .and a b, env => bndN (bndN (semN a env) asBN) fun
    | true => bndN (bndN (semN b env) asBN) fun r => retN (.d (.bl r))
    | false => retN (.d (.bl false))
  | .or a b, env => bndN (bndN (semN a env) asBN) fun
    | true => retN (.d (.bl true))
    | false => bndN (bndN (semN b env) asBN) fun r => retN (.d (.bl r))
  | .ite c a b, env => bndN (bndN (semN c env) asBN) fun
    | true => semN a env
    | false => semN b env
  | .tup es, env => bndN (semEsN es env) fun ds => if ds.length ≤ line then retN (.d (.tup ds)) else stkN
  | .lst es, env => bndN (semEsN es env) fun ds => if ds.length ≤ line then retN (.l ds) else stkN
  | .idx a b, env => bndN (semN a env) fun x => bndN (semN b env) fun y => optN (index x y)
  | .slc a lo hi, env => bndN (semN a env) fun x => bndN (bndN (semN lo env) (partN (isAbs lo))) fun l => bndN (bndN (semN hi env) (partN (isAbs hi))) fun h => optN (slice x l h)
  | .call f es, env => truncN (bndN (semEsN es env) (fun ds => F f ds))
  | .blt b es, env => bndN (semRsN es env) fun xs => optN (builtin b xs)
  | .isin a ts, env => bndN (semN a env) fun x => bndN (optN fun M => isTys M x ts) fun b => retN (.d (.bl b))
  | .comp own it g c e, env =>
    bndN (semItN it env) fun iv =>
      let f : D → PT (Option D) := fun d => match tgt g d (wipe env own) with
        | some env' => noExcN (bndN (bndN (semN c env') asBN) fun
          | true => bndN (bndN (semN e env') settleN) fun y => retN (some y)
          | false => retN none)
        | none => stkN
      bndN (compAllN f iv) fun r => retN (.l r)
  | .meth m a es, env => bndN (bndN (semN a env) settleN) fun x => bndN (isRefN x) fun _ => bndN (semEsN es env) fun xs => methodN m x xs
  | .dict0 t, _ => retN (.m t [] [])
  | .op1 o a, env => bndN (semN a env) fun x => optN (op1 o x)
  | .op2 o a b, env => bndN (semN a env) fun x => bndN (semN b env) fun y => optN (op2 o x y)
  | .never, _ => stkN
def semEsN : Es → Env → PT (List D)
  | .nil, _ => retN []
  | .cons e es, env => bndN (bndN (semN e env) settleN) fun d => bndN (semEsN es env) fun ds => retN (d :: ds)
  | .star e es, env => bndN (semN e env) fun x => bndN (optN fun M => asS M x) fun xs => bndN (semEsN es env) fun ds => retN (xs ++ ds)
  | .plc e es, env => bndN (bndN (semN e env) placeN) fun d => bndN (semEsN es env) fun ds => retN (d :: ds)
def semRsN : Es → Env → PT (List Rv)
  | .nil, _ => retN []
  | .cons e es, env => bndN (semN e env) fun d => bndN (semRsN es env) fun ds => retN (d :: ds)
  | .star _ _, _ => stkN
  | .plc _ _, _ => stkN
def semItN : Itm → Env → PT Itv
  | .seq a, env => bndN (semN a env) fun x => optN (asIt x)
  | .rng es, env => bndN (semRsN es env) fun xs => optN (rangeIt xs)
  | .zip a b, env => bndN (semN a env) fun x => bndN (semN b env) fun y => optN (zipIt x y)
  | .enum a, env => bndN (semN a env) fun x => optN (enumIt x)
end
def semBN (t : Tm) (env : Env) : PT Bool := bndN (semN F t env) asBN
def semVN (t : Tm) (env : Env) : PT D := bndN (semN F t env) settleN
mutual
def execN : Stm → Env → PT Fl
  | .asg g e, env => bndN (semVN F e env) fun d => match tgt g d env with
    | some env' => retN (.nx env')
    | none => stkN
  | .asgP g e, env => bndN (bndN (semN F e env) placeN) fun d => match tgt g d env with
    | some env' => retN (.nx env')
    | none => stkN
  | .par js es, env => bndN (semEsN F es env) fun ds => match sets js ds env with
    | some env' => retN (.nx env')
    | none => stkN
  | .put a i e, env => bndN (semVN F e env) fun d => bndN (semN F a env) fun x => bndN (semN F i env) fun y => bndN (putAtN x y d) fun _ => retN (.nx env)
  | .expr e, env => bndN (semN F e env) fun _ => retN (.nx env)
  | .ret e, env => bndN (semN F e env) fun r => retN (.rt r)
  | .retN, _ => retN (.rt (.d .non))
  | .ite c a b, env => bndN (semBN F c env) fun
    | true => execsN a env
    | false => execsN b env
  | .for_ it g s, env => bndN (semItN F it env) fun iv =>
    let f : D → Env → PT Fl := fun d e => match tgt g d e with
      | some e' => execsN s e'
      | none => stkN
    forAllN f iv env
  | .while_ c s, env => whileN (fun e => semBN F c e) (fun e => execsN s e) fuel env
  | .pass, env => retN (.nx env)
  | .brk, env => retN (.bk env)
  | .cont, env => retN (.ct env)
  | .never, _ => stkN
def execsN : Stms → Env → PT Fl
  | .nil, env => retN (.nx env)
  | .cons s r, env => bndN (execN s env) fun
    | .nx e => execsN r e
    | f => retN f
end
end
def retFN : Fl → PT Rv
  | .nx _ => retN (.d .non)
  | .rt r => retN r
  | _ => stkN
def runBodyN (F : Nat → List D → PT Rv) (fuel : Nat) (d : Df) (args : List D) : PT Rv :=
  if args.length = d.ar then bndN (execsN F fuel d.body (args.map some ++ List.replicate (d.sl - args.length) none)) retFN else stkN

/-- some defs are told by their promise; the second argument is what they do by their text -/
abbrev Spec := Nat → Option (List D → PT Rv → PT Rv)
def PhiN (sp : Spec) (fuel : Nat) (T : Nat → Option Df) : Nat → Nat → List D → PT Rv
  | 0, _, _ => stkN
  | k + 1, f, args =>
    let body : PT Rv := match T f with
      | some d => runBodyN (PhiN sp fuel T k) fuel d args
      | none => stkN
    match sp f with
    | some g => g args body
    | none => body
def isSpn : Option Ob → Bool
  | some .spn => true
  | _ => false
theorem isSpn_iff {o : Option Ob} : isSpn o = true ↔ o = some .spn := by
  cases o with
  | none => simp [isSpn]
  | some u => cases u <;> simp [isSpn]
/-- a draw: any number below the given one -/
def spinN (p : Nat) (args : List D) (body : PT Rv) : PT Rv := fun M R X => match args with
  | [.ref q, .int t] => if q = p ∧ isSpn M[p]? = true then 0 < t ∧ t.natAbs ≤ 2 ^ 8000 ∧ ∀ r : Int, 0 ≤ r → r < t → R (.d (.int r)) M else body M R X
  | _ => body M R X
def spSpin (fs p : Nat) : Spec := fun f => if f = fs then some (spinN p) else none
def spNone : Spec := fun _ => none
end Q
end

section
set_option Elab.async false
set_option linter.all false
set_option maxRecDepth 100000
/-! What is reckoned does not look at the draws. -/
namespace Q
section
variable {M : Ar} {p : Nat} {o : Ob}
theorem look_set {n : Nat} {u : Ob} (hs : M[p]? = some .spn) (h : M[n]? = some u) (hu : u ≠ .spn) : (M.set p o)[n]? = some u := by
  rw [List.getElem?_set_ne]
  · exact h
  · intro e
    subst e
    rw [hs] at h
    exact hu (Option.some.inj h).symm
/-- a reading that has an answer has the same one whatever stands in the place of the draws -/
def Rd {α : Type} (f : Ar → Option α) : Prop := ∀ (M : Ar) (p : Nat) (o : Ob) (r : α), M[p]? = some .spn → f M = some r → f (M.set p o) = some r
theorem Rd.const {α : Type} {x : Option α} : Rd fun _ => x := fun _ _ _ _ _ h => h
theorem Rd.map {α β : Type} {f : Ar → Option α} {g : α → β} (h : Rd f) : Rd fun M => (f M).map g := fun M p o r hs e => by
  obtain ⟨a, e1, rfl⟩ := Option.map_eq_some_iff.mp e
  show (f (M.set p o)).map g = _
  rw [h M p o a hs e1]; rfl
theorem Rd.bind {α β : Type} {f : Ar → Option α} {g : α → Option β} (h : Rd f) : Rd fun M => (f M).bind g := fun M p o r hs e => by
  cases e1 : f M with
  | none =>
    have e : (f M).bind g = some r := e
    rw [e1] at e; cases e
  | some a =>
    have e : (f M).bind g = some r := e
    rw [e1] at e
    show (f (M.set p o)).bind g = _
    rw [h M p o a hs e1]; exact e
theorem rd_lst (n : Nat) : Rd fun M => (match M[n]? with
    | some (.lst ds) => some ds
    | _ => none) := fun M p o r hs h => by
  cases e : M[n]? with
  | none => simp only [e] at h; cases h
  | some u =>
    simp only [e] at h
    try simp only
    cases u with
    | lst ds => cases h; rw [look_set hs e (fun z => nomatch z)]
    | dct t ks vs => cases h
    | spn => cases h
theorem rd_lstAt (n : Nat) : Rd fun M => lstAt M n := rd_lst n
theorem rd_asL (x : Rv) : Rd fun M => asL M x := by
  cases x with
  | l ds => exact Rd.const
  | m t ks vs => exact Rd.const
  | d d => cases d <;> first | exact Rd.const | exact rd_lst _
theorem rd_asS (x : Rv) : Rd fun M => asS M x := by
  cases x with
  | l ds => exact Rd.const
  | m t ks vs => exact Rd.const
  | d d => cases d <;> first | exact Rd.const | exact rd_lst _
theorem asL_set {M : Ar} {p : Nat} {o : Ob} {x : Rv} {r : List D} (hs : M[p]? = some .spn) (e : asL M x = some r) : asL (M.set p o) x = some r := rd_asL x M p o r hs e
theorem asS_set {M : Ar} {p : Nat} {o : Ob} {x : Rv} {r : List D} (hs : M[p]? = some .spn) (e : asS M x = some r) : asS (M.set p o) x = some r := rd_asS x M p o r hs e
theorem lstAt_set {M : Ar} {p : Nat} {o : Ob} {x : Nat} {r : List D} (hs : M[p]? = some .spn) (e : lstAt M x = some r) : lstAt (M.set p o) x = some r := rd_lstAt x M p o r hs e
theorem mapM_le {α β : Type} {f g : α → Option β} : ∀ {xs : List α} {ys : List β}, (∀ x ∈ xs, ∀ y, f x = some y → g x = some y) → xs.mapM f = some ys → xs.mapM g = some ys
  | [], ys, _, h => by
    rw [List.mapM_nil] at h ⊢
    exact h
  | x :: xs, ys, q, h => by
    rw [List.mapM_cons] at h ⊢
    cases e : f x with
    | none => rw [e] at h; cases h
    | some y =>
      rw [e] at h
      rw [q x List.mem_cons_self y e]
      cases e2 : xs.mapM f with
      | none => rw [e2] at h; cases h
      | some r =>
        rw [e2] at h
        rw [mapM_le (fun x hx => q x (List.mem_cons_of_mem _ hx)) e2]
        exact h
theorem map_mapM {α β γ : Type} {f g : α → Option β} {k : β → γ} {w : List β → γ} {xs : List α} {y : γ} (q : ∀ x y, f x = some y → g x = some y) (h : (xs.mapM f).map w = some y) : (xs.mapM g).map w = some y := by
  obtain ⟨a, e1, rfl⟩ := Option.map_eq_some_iff.mp h
  rw [mapM_le (fun x _ y => q x y) e1]; rfl
theorem rd_toP : ∀ (k : Nat) (d : D), Rd fun M => toP k M d
  | 0, d => fun M p o r hs h => by simp [toP] at h
  | k + 1, d => fun M p o r hs h => by
    have ih : ∀ x y, toP k M x = some y → toP k (M.set p o) x = some y := fun x y e => rd_toP k x M p o y hs e
    cases d with
    | tup ds => simp only [toP] at h ⊢; exact map_mapM (k := fun x => x) ih h
    | rl ds => simp only [toP] at h ⊢; exact map_mapM (k := fun x => x) ih h
    | vl ds => simp only [toP] at h ⊢; exact map_mapM (k := fun x => x) ih h
    | ref n =>
      simp only [toP] at h ⊢
      cases e : M[n]? with
      | none => rw [e] at h; cases h
      | some u =>
        rw [e] at h
        cases u with
        | lst ds =>
          rw [look_set hs e (fun z => nomatch z)]
          exact map_mapM (k := fun x => x) ih h
        | dct t ks vs => cases h
        | spn => cases h
    | _ => simp only [toP] at h ⊢; exact h
theorem rd_toPR (x : Rv) : Rd fun M => toPR M x := by
  cases x with
  | d d => exact rd_toP 30 d
  | l ds => exact fun M p o r hs h => map_mapM (k := fun x => x) (fun x y e => rd_toP 29 x M p o y hs e) h
  | m t ks vs => exact Rd.const
theorem toPR_set {M : Ar} {p : Nat} {o : Ob} {x : Rv} {r : PySem.PyData} (hs : M[p]? = some .spn) (e : toPR M x = some r) : toPR (M.set p o) x = some r := rd_toPR x M p o r hs e
theorem rd_eqR (x y : Rv) : Rd fun M => eqR M x y := fun M p o r hs h => by
  have h : (match toPR M x, toPR M y with | some a, some b => some (PySem.PyData.eqv a b) | _, _ => none) = some r := h
  show (match toPR (M.set p o) x, toPR (M.set p o) y with | some a, some b => some (PySem.PyData.eqv a b) | _, _ => none) = some r
  cases e1 : toPR M x with
  | none => rw [e1] at h; cases h
  | some a =>
    rw [e1] at h
    cases e2 : toPR M y with
    | none => rw [e2] at h; cases h
    | some b =>
      rw [e2] at h
      rw [toPR_set hs e1, toPR_set hs e2]; exact h
theorem rd_cmpEq (x y : Rv) : Rd (cmpEq x y) := by
  unfold cmpEq
  intro M p o r hs h
  split at h
  · exact h
  · exact rd_eqR _ _ M p o r hs h
theorem asL_none {x : Rv} {y : Rv} {M : Ar} {r : Bool} (h : asL M x = none) (e : cmpEq x y M = some r) : ∀ M', asL M' x = none := by
  intro M'
  cases x with
  | l ds => cases h
  | m t ks vs => rfl
  | d d =>
    cases d with
    | vl ds => cases h
    | ref n =>
      have h : (match M[n]? with | some (.lst ds) => some ds | _ => none) = none := h
      have e : eqR M (.d (.ref n)) y = some r := e
      unfold eqR at e
      have : toPR M (.d (.ref n)) = none := by
        show toP (29 + 1) M (.ref n) = none
        simp only [toP]
        cases hm : M[n]? with
        | none => rfl
        | some u =>
          rw [hm] at h
          cases u with
          | lst ds => cases h
          | dct t ks vs => rfl
          | spn => rfl
      rw [this] at e
      cases e
    | _ => rfl
theorem rd_cmpEq0 (x y : Rv) : Rd (cmpEq0 x y) := by
  intro M p o r hs h
  unfold cmpEq0 at h ⊢
  split at h
  · cases e : asL M x with
    | some ds =>
      rw [e] at h
      try simp only
      rw [asL_set hs e]; exact h
    | none =>
      rw [e] at h
      try simp only
      rw [asL_none e h]
      exact rd_cmpEq _ _ M p o r hs h
  · exact rd_cmpEq _ _ M p o r hs h
theorem rd_inR (x y : Rv) : Rd fun M => inR M x y := fun M p o r hs h => by
  have h : (match toPR M x, (asS M y).bind (fun ds => ds.mapM (toP 29 M)) with | some a, some bs => some (bs.any fun b => PySem.PyData.eqv b a) | _, _ => none) = some r := h
  show (match toPR (M.set p o) x, (asS (M.set p o) y).bind (fun ds => ds.mapM (toP 29 (M.set p o))) with | some a, some bs => some (bs.any fun b => PySem.PyData.eqv b a) | _, _ => none) = some r
  cases e1 : toPR M x with
  | none => rw [e1] at h; cases h
  | some a =>
    rw [e1] at h
    rw [toPR_set hs e1]
    cases e2 : asS M y with
    | none => rw [e2] at h; cases h
    | some ds =>
      rw [e2] at h
      rw [asS_set hs e2]
      simp only [Option.bind_some] at h ⊢
      cases e3 : ds.mapM (toP 29 M) with
      | none => rw [e3] at h; cases h
      | some ps =>
        rw [e3] at h
        rw [mapM_le (fun x _ y e => rd_toP 29 x M p o y hs e) e3]; exact h
theorem rd_cmpop (c : Cop) (x y : Rv) : Rd (cmpop c x y) := by
  have iN : Rd (cmpIn x y) := by
    intro M p o r hs h
    unfold cmpIn at h ⊢
    split at h
    · cases h
    · exact rd_inR _ _ M p o r hs h
  cases c with
  | eq => exact rd_cmpEq0 x y
  | ne => exact (rd_cmpEq x y).map
  | in_ => exact iN
  | nin => exact iN.map
  | _ => exact Rd.const
theorem rd_binLst (b : Bop) (x y : Rv) : Rd (binLst b x y) := by
  intro M p o r hs h
  cases b with
  | add =>
    have h : catL M x y = some r := h
    show catL (M.set p o) x y = some r
    unfold catL at h ⊢
    cases e1 : asL M x with
    | none => rw [e1] at h; cases h
    | some a =>
      rw [e1] at h
      cases e2 : asL M y with
      | none => rw [e2] at h; cases h
      | some b =>
        rw [e2] at h
        rw [asL_set hs e1, asL_set hs e2]; exact h
  | mul =>
    have h : repL M x y = some r := h
    show repL (M.set p o) x y = some r
    unfold repL at h ⊢
    cases e1 : asL M x with
    | none => rw [e1] at h; cases h
    | some a =>
      rw [e1] at h
      rw [asL_set hs e1]; exact h
  | _ => exact h
theorem rd_binop (b : Bop) (x y : Rv) : Rd (binop b x y) := by
  unfold binop
  intro M p o r hs h
  split at h
  all_goals first | exact h | exact rd_binLst _ _ _ M p o r hs h
theorem rd_op1 (q : Op1) (x : Rv) : Rd (op1 q x) := by
  intro M p o r hs h
  unfold op1 at h ⊢
  cases q with
  | lenset =>
    try simp only at h ⊢
    cases e1 : asS M x with
    | none => rw [e1] at h; cases h
    | some ds =>
      rw [e1] at h
      rw [asS_set hs e1]; exact h
  | _ => exact h
theorem rd_op2 (q : Op2) (x y : Rv) : Rd (op2 q x y) := by
  intro M p o r hs h
  unfold op2 at h ⊢
  cases q <;> exact h
theorem rd_index (x y : Rv) : Rd (index x y) := by
  have main : ∀ i : Int, Rd fun M => (match (asS M x).bind (atD · i) with | some d => some (Rv.d d) | none => none) := fun i M p o r hs h => by
    have h : (match (asS M x).bind (atD · i) with | some d => some (Rv.d d) | none => none) = some r := h
    show (match (asS (M.set p o) x).bind (atD · i) with | some d => some (Rv.d d) | none => none) = some r
    cases e : asS M x with
    | none => rw [e] at h; cases h
    | some ds => rw [e] at h; rw [asS_set hs e]; exact h
  intro M p o r hs h
  unfold index at h ⊢
  split at h
  · split at h
    · exact h
    · exact main _ M p o r hs h
  · cases h
theorem rd_slice (x : Rv) (l h : Option Int) : Rd (slice x l h) := by
  intro M p o r hs e
  unfold slice at e ⊢
  split at e
  · exact e
  · exact e
  · try simp only
    cases e1 : asS M x with
    | none => rw [e1] at e; cases e
    | some ds =>
      rw [e1] at e
      rw [asS_set hs e1]; exact e
theorem rd_builtin (b : Blt) (xs : List Rv) : Rd (builtin b xs) := by
  intro M p o r hs h
  have key : ∀ {α : Type} {f : Ar → Option α} {g : α → Rv}, Rd f → (f M).map g = some r → (f (M.set p o)).map g = some r := fun hf e => hf.map M p o r hs e
  unfold builtin at h ⊢
  split at h
  all_goals first
    | exact h
    | exact key (rd_asS _) h
    | exact key ((rd_asL _).bind) h
    | cases h
theorem rd_isTyM (x : Rv) (t : Ty) : Rd fun M => isTyM M x t := by
  intro M p o r hs h
  simp only at h ⊢
  unfold isTyM at h ⊢
  split at h
  · rename_i n
    try simp only
    cases e : M[n]? with
    | none => rw [e] at h; cases h
    | some u =>
      rw [e] at h
      cases u with
      | lst ds => rw [look_set hs e (fun z => nomatch z)]; exact h
      | dct t' ks vs => rw [look_set hs e (fun z => nomatch z)]; exact h
      | spn => cases h
  · exact h
theorem isTyM_set {M : Ar} {p : Nat} {o : Ob} {x : Rv} {t : Ty} {r : Bool} (hs : M[p]? = some .spn) (e : isTyM M x t = some r) : isTyM (M.set p o) x t = some r := rd_isTyM x t M p o r hs e
theorem rd_isTys (x : Rv) : ∀ ts : List Ty, Rd fun M => isTys M x ts
  | [] => Rd.const
  | t :: ts => fun M p o r hs h => by
    have h : (match isTyM M x t with | some true => some true | some false => isTys M x ts | none => none) = some r := h
    show (match isTyM (M.set p o) x t with | some true => some true | some false => isTys (M.set p o) x ts | none => none) = some r
    cases e : isTyM M x t with
    | none => rw [e] at h; cases h
    | some b =>
      rw [e] at h
      rw [isTyM_set hs e]
      cases b with
      | true => exact h
      | false => exact rd_isTys x ts M p o r hs h
theorem rd_asIt (x : Rv) : Rd (asIt x) := by
  intro M p o r hs h
  unfold asIt at h ⊢
  split at h
  all_goals first
    | exact h
    | (rename_i n
       try simp only
       cases e : lstAt M n with
       | none => rw [e] at h; cases h
       | some ds => rw [e] at h; rw [lstAt_set hs e]; exact h)
theorem rd_srcAll (s : Src) : Rd fun M => srcAll M s := by
  cases s with
  | st t ds => exact Rd.const
  | rf n => exact rd_lstAt n
theorem srcAll_set {M : Ar} {p : Nat} {o : Ob} {x : Src} {r : List D} (hs : M[p]? = some .spn) (e : srcAll M x = some r) : srcAll (M.set p o) x = some r := rd_srcAll x M p o r hs e
theorem rd_zipIt (x y : Rv) : Rd (zipIt x y) := by
  intro M p o r hs h
  unfold zipIt at h ⊢
  split at h
  · rename_i a b e1 e2
    try simp only
    by_cases c : ((srcAll M a).isSome && (srcAll M b).isSome) = true
    · rw [if_pos c] at h
      have c' := c
      simp only [Bool.and_eq_true] at c'
      obtain ⟨u, hu⟩ := Option.isSome_iff_exists.mp c'.1
      obtain ⟨w, hw⟩ := Option.isSome_iff_exists.mp c'.2
      have k1 := srcAll_set (o := o) hs hu
      have k2 := srcAll_set (o := o) hs hw
      skip
      rw [if_pos (by rw [k1, k2]; rfl)]; exact h
    · rw [if_neg c] at h; cases h
  · cases h
theorem rd_enumIt (x : Rv) : Rd (enumIt x) := by
  intro M p o r hs h
  unfold enumIt at h ⊢
  split at h
  all_goals first
    | exact h
    | (rename_i n
       try simp only
       cases e : lstAt M n with
       | none => rw [e] at h; cases h
       | some ds => rw [e] at h; rw [lstAt_set hs e]; exact h)
theorem rd_itLen (y : Itv) : Rd fun M => itLen M y := by
  cases y with
  | st ds => exact Rd.const
  | one n => exact (rd_lstAt n).map
  | enum n => exact (rd_lstAt n).map
  | zip a b =>
    intro M p o r hs h
    have h : (match srcAll M a, srcAll M b with | some x, some y => some (min x.length y.length) | _, _ => none) = some r := h
    show (match srcAll (M.set p o) a, srcAll (M.set p o) b with | some x, some y => some (min x.length y.length) | _, _ => none) = some r
    cases e1 : srcAll M a with
    | none => rw [e1] at h; cases h
    | some u =>
      rw [e1] at h
      cases e2 : srcAll M b with
      | none => rw [e2] at h; cases h
      | some w =>
        rw [e2] at h
        rw [srcAll_set hs e1, srcAll_set hs e2]; exact h
theorem rd_itNth (y : Itv) (i : Nat) : Rd fun M => itNth M i y := by
  cases y with
  | st ds => exact Rd.const
  | one n => exact (rd_lstAt n).bind
  | enum n => exact ((rd_lstAt n).bind).map
  | zip a b =>
    intro M p o r hs h
    have h : (match (srcAll M a).bind (·[i]?), (srcAll M b).bind (·[i]?) with | some x, some y => some (D.tup [x, y]) | _, _ => none) = some r := h
    show (match (srcAll (M.set p o) a).bind (·[i]?), (srcAll (M.set p o) b).bind (·[i]?) with | some x, some y => some (D.tup [x, y]) | _, _ => none) = some r
    cases e1 : (srcAll M a).bind (·[i]?) with
    | none => rw [e1] at h; cases h
    | some u =>
      rw [e1] at h
      cases e2 : (srcAll M b).bind (·[i]?) with
      | none => rw [e2] at h; cases h
      | some w =>
        rw [e2] at h
        have k1 := (rd_srcAll a).bind (g := fun ds => ds[i]?) M p o u hs e1
        have k2 := (rd_srcAll b).bind (g := fun ds => ds[i]?) M p o w hs e2
        simp only at k1 k2
        rw [k1, k2]; exact h
end
end Q
end

section
set_option Elab.async false
set_option linter.all false
set_option maxRecDepth 100000
/-! The two forms of the interpreter go together: whatever relation is kept by the pieces is kept by the whole. -/
namespace Q
/-- a step that does not look at the draws -/
structure Wr {α : Type} (x : Md α) : Prop where
  ok : ∀ (M : Ar) (p : Nat) (o : Ob) (a : α) (M' : Ar), M[p]? = some .spn → x M = .ok a M' → M'[p]? = some .spn ∧ x (M.set p o) = .ok a (M'.set p o)
  exc : ∀ (M : Ar) (c : Nat) (d : D) (M' : Ar), x M ≠ .exc c d M'
theorem Wr.opt {α : Type} {f : Ar → Option α} (h : Rd f) : Wr (opt f) where
  ok := fun M p o a M' hs e => by
    unfold Q.opt at e ⊢
    cases e1 : f M with
    | none => rw [e1] at e; cases e
    | some r => rw [e1] at e; cases e; rw [h M p o _ hs e1]; exact ⟨hs, rfl⟩
  exc := fun M c d M' e => by
    unfold Q.opt at e
    cases e1 : f M <;> rw [e1] at e <;> cases e
theorem Wr.ret {α : Type} {a : α} : Wr (ret a) where
  ok := fun M p o b M' hs e => by cases e; exact ⟨hs, rfl⟩
  exc := fun M c d M' e => by cases e
theorem Wr.stk {α : Type} : Wr (stk : Md α) where
  ok := fun M p o b M' hs e => by cases e
  exc := fun M c d M' e => by cases e
theorem wr_asB (r : Rv) : Wr (asB r) := by
  unfold asB
  split
  · exact .ret
  · exact .stk
theorem wr_settle (r : Rv) : Wr (settle r) := .ret
theorem push_set {M : Ar} {p : Nat} {o u : Ob} (hs : M[p]? = some .spn) : (M ++ [u])[p]? = some .spn ∧ M.set p o ++ [u] = (M ++ [u]).set p o := by
  have hp := (List.getElem?_eq_some_iff.mp hs).1
  exact ⟨by rw [List.getElem?_append_left hp]; exact hs, (List.set_append_left p o hp).symm⟩
theorem wr_place (r : Rv) : Wr (place r) := by
  cases r with
  | d d => exact .ret
  | l ds =>
    refine ⟨fun M p o a M' hs e => ?_, fun M c d M' e => by cases e⟩
    cases e
    refine ⟨(push_set (o := o) hs).1, ?_⟩
    show Out.ok (D.ref (M.set p o).length) (M.set p o ++ [.lst ds]) = _
    rw [List.length_set, (push_set hs).2]
  | m t ks vs =>
    refine ⟨fun M p o a M' hs e => ?_, fun M c d M' e => by cases e⟩
    cases e
    refine ⟨(push_set (o := o) hs).1, ?_⟩
    show Out.ok (D.ref (M.set p o).length) (M.set p o ++ [.dct t ks vs]) = _
    rw [List.length_set, (push_set hs).2]
theorem wr_partM (b : Bool) (x : Rv) : Wr (partM b x) := by
  unfold partM
  split
  · exact .ret
  · split
    · exact .ret
    · exact .stk
theorem wr_getV (env : Env) (i : Nat) : Wr (getV env i) := by
  unfold getV
  split
  · exact .ret
  · exact .stk
theorem wr_isRefM (d : D) : Wr (isRefM d) := by
  refine ⟨fun M p o a M' hs e => ?_, fun M c d' M' e => ?_⟩
  · unfold isRefM at e ⊢
    cases d with
    | ref n =>
      simp only at e ⊢
      cases e1 : lstAt M n with
      | none => rw [e1] at e; cases e
      | some ds => rw [e1] at e; rw [lstAt_set hs e1]; cases e; exact ⟨hs, rfl⟩
    | _ => cases e
  · unfold isRefM at e
    cases d with
    | ref n =>
      simp only at e
      cases e1 : lstAt M n <;> rw [e1] at e <;> cases e
    | _ => cases e
theorem set_set_ne {M : Ar} {p n : Nat} {o u : Ob} (h : n ≠ p) : (M.set p o).set n u = (M.set n u).set p o := (List.set_comm u o h).symm ▸ rfl
theorem write_set {M : Ar} {p n : Nat} {o u w : Ob} (hs : M[p]? = some .spn) (hn : M[n]? = some w) (hw : w ≠ .spn) : (M.set n u)[p]? = some .spn ∧ (M.set p o).set n u = (M.set n u).set p o := by
  have ne : n ≠ p := fun e => by
    subst e
    rw [hs] at hn
    exact hw (Option.some.inj hn).symm
  exact ⟨by rw [List.getElem?_set_ne ne]; exact hs, List.set_comm _ _ (Ne.symm ne)⟩
theorem wr_method (m : Mth) (x : D) (xs : List D) : Wr (method m x xs) := by
  refine ⟨fun M p o a M' hs e => ?_, fun M c d' M' e => ?_⟩
  · unfold method at e ⊢
    cases x with
    | ref n =>
      simp only at e ⊢
      cases e1 : M[n]? with
      | none => rw [e1] at e; cases e
      | some u =>
        rw [e1] at e
        cases u with
        | dct t ks vs => cases e
        | spn => cases e
        | lst ds =>
          rw [look_set hs e1 (fun z => nomatch z)]
          simp only at e ⊢
          split at e
          · split at e
            · rename_i hl
              cases e
              try simp only
              rw [if_pos hl]
              obtain ⟨q1, q2⟩ := write_set (o := o) (u := .lst (ds ++ [_])) hs e1 (fun z => nomatch z)
              exact ⟨q1, by rw [q2]⟩
            · cases e
          · split at e
            · rename_i y hy
              cases e
              try simp only
              obtain ⟨q1, q2⟩ := write_set (o := o) (u := .lst ds.dropLast) hs e1 (fun z => nomatch z)
              exact ⟨q1, congrArg (Out.ok _) q2⟩
            · cases e
          · cases e
    | _ => cases e
  · unfold method at e
    split at e
    · split at e
      · split at e
        · split at e <;> cases e
        · split at e <;> cases e
        · cases e
      · cases e
    · cases e
theorem wr_putAt (x y : Rv) (d : D) : Wr (putAt x y d) := by
  refine ⟨fun M p o a M' hs e => ?_, fun M c d' M' e => ?_⟩
  · unfold putAt at e ⊢
    split at e
    · rename_i n i
      try simp only
      cases e1 : M[n]? with
      | none => rw [e1] at e; cases e
      | some u =>
        rw [e1] at e
        cases u with
        | dct t ks vs => cases e
        | spn => cases e
        | lst ds =>
          rw [look_set hs e1 (fun z => nomatch z)]
          simp only at e ⊢
          cases hj : ixD ds.length i with
          | none => rw [hj] at e; cases e
          | some j =>
            rw [hj] at e
            cases e
            obtain ⟨q1, q2⟩ := write_set (o := o) (u := .lst (ds.set j d)) hs e1 (fun z => nomatch z)
            exact ⟨q1, by simp only; rw [q2]⟩
    · cases e
  · unfold putAt at e
    split at e
    · split at e
      · split at e <;> cases e
      · cases e
    · cases e

/-- what a relation must keep -/
structure Clo (Rel : Nat → ∀ {α : Type}, Md α → PT α → Prop) : Prop where
  det : ∀ {α : Type} {x : Md α}, Wr x → Rel 0 x (dN x)
  bnd : ∀ {α β : Type} {c c' : Nat} {x : Md α} {y : PT α} {f : α → Md β} {g : α → PT β}, Rel c x y → (∀ a, Rel c' (f a) (g a)) → Rel (c + c') (bnd x f) (bndN y g)
  mono : ∀ {α : Type} {c c' : Nat} {x : Md α} {y : PT α}, c ≤ c' → Rel c x y → Rel c' x y
  noExc : ∀ {α : Type} {c : Nat} {x : Md α} {y : PT α}, Rel c x y → Rel c (noExc x) (noExcN y)
  trunc : ∀ {c : Nat} {x : Md Rv} {y : PT Rv}, Rel c x y → Rel c (fun M => trunc M (x M)) (truncN y)

/-! ### how many draws at most -/
section
variable (C : Nat)
mutual
def cT : Tm → Nat
  | .var _ => 0
  | .cst _ => 0
  | .neg a => cT a
  | .nt a => cT a
  | .bin _ a b => cT a + cT b
  | .cmp _ a b => cT a + cT b
  | .chain _ _ a b c => cT a + (cT b + cT c)
  | .and a b => cT a + cT b
  | .or a b => cT a + cT b
  | .ite c a b => cT c + (cT a + cT b)
  | .tup es => cEs' es
  | .lst es => cEs' es
  | .idx a b => cT a + cT b
  | .slc a l h => cT a + (cT l + cT h)
  | .call _ es => cEs' es + C
  | .blt _ es => cEs' es
  | .isin a _ => cT a
  | .comp _ it _ c e => cIt it + line * (cT c + cT e)
  | .meth _ a es => cT a + cEs' es
  | .dict0 _ => 0
  | .op1 _ a => cT a
  | .op2 _ a b => cT a + cT b
  | .never => 0
def cEs' : Es → Nat
  | .nil => 0
  | .cons e es => cT e + cEs' es
  | .star e es => cT e + cEs' es
  | .plc e es => cT e + cEs' es
def cIt : Itm → Nat
  | .seq a => cT a
  | .rng es => cEs' es
  | .zip a b => cT a + cT b
  | .enum a => cT a
end
variable (fuel : Nat)
mutual
def cSt : Stm → Nat
  | .asg _ e => cT C e
  | .asgP _ e => cT C e
  | .par _ es => cEs' C es
  | .put a i e => cT C e + (cT C a + cT C i)
  | .expr e => cT C e
  | .ret e => cT C e
  | .retN => 0
  | .ite c a b => cT C c + (cSs' a + cSs' b)
  | .for_ it _ s => cIt C it + line * cSs' s
  | .while_ c s => fuel * (cT C c + cSs' s)
  | .pass => 0
  | .brk => 0
  | .cont => 0
  | .never => 0
def cSs' : Stms → Nat
  | .nil => 0
  | .cons s r => cSt s + cSs' r
end
end
section
variable {Rel : Nat → ∀ {α : Type}, Md α → PT α → Prop} (K : Clo Rel)
include K
theorem Clo.ret {α : Type} {a : α} : Rel 0 (ret a) (retN a) := K.det .ret
theorem Clo.stk {α : Type} : Rel 0 (stk : Md α) stkN := K.det .stk
theorem Clo.opt {α : Type} {f : Ar → Option α} (h : Rd f) : Rel 0 (opt f) (optN f) := K.det (.opt h)
theorem Clo.ite {α : Type} {c : Nat} {x : Md α} {y : PT α} {P : Prop} [Decidable P] (h : Rel c x y) : Rel c (if P then x else Q.stk) (if P then y else stkN) := by
  by_cases hp : P
  · rw [if_pos hp, if_pos hp]; exact h
  · rw [if_neg hp, if_neg hp]; exact K.mono (Nat.zero_le _) K.stk
theorem Clo.compL {c : Nat} {f : D → Md (Option D)} {g : D → PT (Option D)} (h : ∀ d, Rel c (f d) (g d)) : ∀ (ds acc : List D), Rel (ds.length * c) (compL f ds acc) (compLN g ds acc)
  | [], acc => K.mono (Nat.zero_le _) K.ret
  | x :: xs, acc => by
    refine K.mono (c := c + xs.length * c) (by rw [List.length_cons, Nat.succ_mul]; omega) (K.bnd (h x) fun o => ?_)
    cases o with
    | none => exact Clo.compL h xs acc
    | some d => exact K.ite (Clo.compL h xs (d :: acc))
theorem compD_eq {f : D → Md (Option D)} {y : Itv} {i k : Nat} {acc : List D} : compD f y i (k + 1) acc = bnd (Q.opt fun M => itNth M i y) fun x => bnd (f x) (fun
      | some d => if acc.length < line then compD f y (i + 1) k (d :: acc) else Q.stk
      | none => compD f y (i + 1) k acc) := by
  funext M
  show (match itNth M i y with | some x => bnd (f x) _ M | none => .stuck) = bnd _ _ M
  unfold bnd Q.opt
  cases e : itNth M i y <;> simp only [e] <;> rfl
theorem compD_eq0 {f : D → Md (Option D)} {y : Itv} {i : Nat} {acc : List D} : compD f y i 0 acc = bnd (Q.opt fun M => itLen M y) fun l => if l ≤ i then Q.ret acc.reverse else Q.stk := by
  funext M
  show (match itLen M y with | some l => if l ≤ i then .ok acc.reverse M else .stuck | none => .stuck) = bnd _ _ M
  unfold bnd Q.opt
  cases e : itLen M y with
  | none => simp only [e]
  | some l =>
    simp only [e]
    show (if l ≤ i then Out.ok acc.reverse M else .stuck) = (if l ≤ i then Q.ret acc.reverse else Q.stk) M
    by_cases h : l ≤ i
    · rw [if_pos h, if_pos h]; rfl
    · rw [if_neg h, if_neg h]; rfl
theorem Clo.compD {c : Nat} {f : D → Md (Option D)} {g : D → PT (Option D)} (h : ∀ d, Rel c (f d) (g d)) (y : Itv) : ∀ (k i : Nat) (acc : List D), Rel (k * c) (compD f y i k acc) (compDN g y i k acc)
  | 0, i, acc => by
    rw [compD_eq0 K]
    exact K.mono (c := 0 + 0) (Nat.zero_le _) (K.bnd (K.opt (rd_itLen y)) fun l => K.ite K.ret)
  | k + 1, i, acc => by
    rw [compD_eq K]
    refine K.mono (c := 0 + (c + k * c)) (by rw [Nat.succ_mul]; omega) (K.bnd (K.opt (rd_itNth y i)) fun x => K.bnd (h x) fun o => ?_)
    cases o with
    | none => exact Clo.compD h y k (i + 1) acc
    | some d => exact K.ite (Clo.compD h y k (i + 1) (d :: acc))
theorem Clo.compAll {c : Nat} {f : D → Md (Option D)} {g : D → PT (Option D)} (h : ∀ d, Rel c (f d) (g d)) (iv : Itv) : Rel (line * c) (compAll f iv) (compAllN g iv) := by
  have dyn : Rel (line * c) (Q.bnd (Q.opt fun M => itLen M iv) fun k => if k ≤ line then Q.compD f iv 0 k [] else Q.stk) (bndN (optN fun M => itLen M iv) fun k => if k ≤ line then compDN g iv 0 k [] else stkN) := by
    refine K.mono (c := 0 + line * c) (by omega) (K.bnd (K.opt (rd_itLen iv)) fun k => ?_)
    by_cases hk : k ≤ line
    · rw [if_pos hk, if_pos hk]
      exact K.mono (Nat.mul_le_mul_right c hk) (Clo.compD K h iv k 0 [])
    · rw [if_neg hk, if_neg hk]
      exact K.mono (Nat.zero_le _) K.stk
  cases iv with
  | st ds =>
    show Rel _ (if ds.length ≤ line then Q.compL f ds [] else Q.stk) (if ds.length ≤ line then compLN g ds [] else stkN)
    by_cases hk : ds.length ≤ line
    · rw [if_pos hk, if_pos hk]
      exact K.mono (Nat.mul_le_mul_right c hk) (Clo.compL K h ds [])
    · rw [if_neg hk, if_neg hk]
      exact K.mono (Nat.zero_le _) K.stk
  | one n => exact dyn
  | zip a b => exact dyn
  | enum n => exact dyn
theorem Clo.forL {c : Nat} {f : D → Env → Md Fl} {g : D → Env → PT Fl} (h : ∀ d e, Rel c (f d e) (g d e)) : ∀ (ds : List D) (env : Env), Rel (ds.length * c) (forL f ds env) (forLN g ds env)
  | [], env => K.mono (Nat.zero_le _) K.ret
  | x :: xs, env => by
    refine K.mono (c := c + xs.length * c) (by rw [List.length_cons, Nat.succ_mul]; omega) (K.bnd (h x env) fun o => ?_)
    cases o with
    | nx e => exact Clo.forL h xs e
    | ct e => exact Clo.forL h xs e
    | bk e => exact K.mono (Nat.zero_le _) K.ret
    | rt r => exact K.mono (Nat.zero_le _) K.ret
theorem forD_eq {f : D → Env → Md Fl} {y : Itv} {i k : Nat} {env : Env} : forD f y i (k + 1) env = bnd (Q.opt fun M => itNth M i y) fun x => bnd (f x env) (fun
      | .nx e => forD f y (i + 1) k e
      | .ct e => forD f y (i + 1) k e
      | .bk e => Q.ret (.nx e)
      | .rt r => Q.ret (.rt r)) := by
  funext M
  show (match itNth M i y with | some x => bnd (f x env) _ M | none => .stuck) = bnd _ _ M
  unfold bnd Q.opt
  cases e : itNth M i y <;> simp only [e] <;> rfl
theorem forD_eq0 {f : D → Env → Md Fl} {y : Itv} {i : Nat} {env : Env} : forD f y i 0 env = bnd (Q.opt fun M => itLen M y) fun l => if l ≤ i then Q.ret (.nx env) else Q.stk := by
  funext M
  show (match itLen M y with | some l => if l ≤ i then .ok (Fl.nx env) M else .stuck | none => .stuck) = bnd _ _ M
  unfold bnd Q.opt
  cases e : itLen M y with
  | none => simp only [e]
  | some l =>
    simp only [e]
    show (if l ≤ i then Out.ok (Fl.nx env) M else .stuck) = (if l ≤ i then Q.ret (Fl.nx env) else Q.stk) M
    by_cases h : l ≤ i
    · rw [if_pos h, if_pos h]; rfl
    · rw [if_neg h, if_neg h]; rfl
theorem Clo.forD {c : Nat} {f : D → Env → Md Fl} {g : D → Env → PT Fl} (h : ∀ d e, Rel c (f d e) (g d e)) (y : Itv) : ∀ (k i : Nat) (env : Env), Rel (k * c) (forD f y i k env) (forDN g y i k env)
  | 0, i, env => by
    rw [forD_eq0 K]
    exact K.mono (c := 0 + 0) (Nat.zero_le _) (K.bnd (K.opt (rd_itLen y)) fun l => K.ite K.ret)
  | k + 1, i, env => by
    rw [forD_eq K]
    refine K.mono (c := 0 + (c + k * c)) (by rw [Nat.succ_mul]; omega) (K.bnd (K.opt (rd_itNth y i)) fun x => K.bnd (h x env) fun o => ?_)
    cases o with
    | nx e => exact Clo.forD h y k (i + 1) e
    | ct e => exact Clo.forD h y k (i + 1) e
    | bk e => exact K.mono (Nat.zero_le _) K.ret
    | rt r => exact K.mono (Nat.zero_le _) K.ret
theorem Clo.forAll {c : Nat} {f : D → Env → Md Fl} {g : D → Env → PT Fl} (h : ∀ d e, Rel c (f d e) (g d e)) (iv : Itv) (env : Env) : Rel (line * c) (forAll_ f iv env) (forAllN g iv env) := by
  have dyn : Rel (line * c) (Q.bnd (Q.opt fun M => itLen M iv) fun k => if k ≤ line then Q.forD f iv 0 k env else Q.stk) (bndN (optN fun M => itLen M iv) fun k => if k ≤ line then forDN g iv 0 k env else stkN) := by
    refine K.mono (c := 0 + line * c) (by omega) (K.bnd (K.opt (rd_itLen iv)) fun k => ?_)
    by_cases hk : k ≤ line
    · rw [if_pos hk, if_pos hk]
      exact K.mono (Nat.mul_le_mul_right c hk) (Clo.forD K h iv k 0 env)
    · rw [if_neg hk, if_neg hk]
      exact K.mono (Nat.zero_le _) K.stk
  cases iv with
  | st ds =>
    show Rel _ (if ds.length ≤ line then Q.forL f ds env else Q.stk) (if ds.length ≤ line then forLN g ds env else stkN)
    by_cases hk : ds.length ≤ line
    · rw [if_pos hk, if_pos hk]
      exact K.mono (Nat.mul_le_mul_right c hk) (Clo.forL K h ds env)
    · rw [if_neg hk, if_neg hk]
      exact K.mono (Nat.zero_le _) K.stk
  | one n => exact dyn
  | zip a b => exact dyn
  | enum n => exact dyn
theorem Clo.while_ {c c' : Nat} {t : Env → Md Bool} {t' : Env → PT Bool} {f : Env → Md Fl} {g : Env → PT Fl} (ht : ∀ e, Rel c (t e) (t' e)) (h : ∀ e, Rel c' (f e) (g e)) : ∀ (n : Nat) (env : Env), Rel (n * (c + c')) (whileF t f n env) (whileN t' g n env)
  | 0, env => K.mono (Nat.zero_le _) K.stk
  | n + 1, env => by
    refine K.mono (c := c + (c' + n * (c + c'))) (by rw [Nat.succ_mul]; omega) (K.bnd (ht env) fun b => ?_)
    cases b with
    | false => exact K.mono (Nat.zero_le _) K.ret
    | true =>
      refine K.bnd (h env) fun o => ?_
      cases o with
      | nx e => exact Clo.while_ ht h n e
      | ct e => exact Clo.while_ ht h n e
      | bk e => exact K.mono (Nat.zero_le _) K.ret
      | rt r => exact K.mono (Nat.zero_le _) K.ret
section
variable {F : Nat → List D → Md Rv} {FN : Nat → List D → PT Rv} {C : Nat} (hF : ∀ f ds, Rel C (F f ds) (FN f ds))
include hF
mutual
theorem Clo.tm : ∀ (t : Tm) (env : Env), Rel (cT C t) (sem F t env) (semN FN t env)
  | .var i, env => K.det (wr_getV env i)
  | .cst d, _ => K.ret
  | .neg a, env => K.mono (c := cT C a + 0) (Nat.le_refl _) (K.bnd (Clo.tm a env) fun r => by
    cases r with
    | d d => cases d <;> first | exact K.ret | exact K.stk
    | l ds => exact K.stk
    | m t ks vs => exact K.stk)
  | .nt a, env => K.mono (c := cT C a + 0 + 0) (Nat.le_refl _) (K.bnd (K.bnd (Clo.tm a env) fun r => K.det (wr_asB r)) fun b => K.ret)
  | .bin o a b, env => K.bnd (Clo.tm a env) fun x => K.mono (c := cT C b + 0) (Nat.le_refl _) (K.bnd (Clo.tm b env) fun y => K.opt (rd_binop o x y))
  | .cmp o a b, env => K.bnd (Clo.tm a env) fun x => K.mono (c := cT C b + (0 + 0)) (Nat.le_refl _) (K.bnd (Clo.tm b env) fun y => K.bnd (K.opt (rd_cmpop o x y)) fun _ => K.ret)
  | .chain o p a b c, env => K.bnd (Clo.tm a env) fun x => K.bnd (Clo.tm b env) fun y => K.mono (c := 0 + cT C c) (by omega) (K.bnd (K.opt (rd_cmpop o x y)) fun r => by
    cases r with
    | false => exact K.mono (Nat.zero_le _) K.ret
    | true => exact K.mono (c := cT C c + (0 + 0)) (Nat.le_refl _) (K.bnd (Clo.tm c env) fun z => K.bnd (K.opt (rd_cmpop p y z)) fun _ => K.ret))
  | .and a b, env => K.mono (c := cT C a + 0 + cT C b) (Nat.le_refl _) (K.bnd (K.bnd (Clo.tm a env) fun r => K.det (wr_asB r)) fun r => by
    cases r with
    | false => exact K.mono (Nat.zero_le _) K.ret
    | true => exact K.mono (c := cT C b + 0 + 0) (Nat.le_refl _) (K.bnd (K.bnd (Clo.tm b env) fun r => K.det (wr_asB r)) fun _ => K.ret))
  | .or a b, env => K.mono (c := cT C a + 0 + cT C b) (Nat.le_refl _) (K.bnd (K.bnd (Clo.tm a env) fun r => K.det (wr_asB r)) fun r => by
    cases r with
    | true => exact K.mono (Nat.zero_le _) K.ret
    | false => exact K.mono (c := cT C b + 0 + 0) (Nat.le_refl _) (K.bnd (K.bnd (Clo.tm b env) fun r => K.det (wr_asB r)) fun _ => K.ret))
  | .ite c a b, env => K.mono (c := cT C c + 0 + (cT C a + cT C b)) (Nat.le_refl _) (K.bnd (K.bnd (Clo.tm c env) fun r => K.det (wr_asB r)) fun r => by
    cases r with
    | true => exact K.mono (Nat.le_add_right _ _) (Clo.tm a env)
    | false => exact K.mono (Nat.le_add_left _ _) (Clo.tm b env))
  | .tup es, env => K.mono (c := cEs' C es + 0) (Nat.le_refl _) (K.bnd (Clo.es es env) fun ds => K.ite K.ret)
  | .lst es, env => K.mono (c := cEs' C es + 0) (Nat.le_refl _) (K.bnd (Clo.es es env) fun ds => K.ite K.ret)
  | .idx a b, env => K.bnd (Clo.tm a env) fun x => K.mono (c := cT C b + 0) (Nat.le_refl _) (K.bnd (Clo.tm b env) fun y => K.opt (rd_index x y))
  | .slc a lo hi, env => K.bnd (Clo.tm a env) fun x => K.mono (c := cT C lo + 0 + (cT C hi + 0 + 0)) (Nat.le_refl _) (K.bnd (K.bnd (Clo.tm lo env) fun r => K.det (wr_partM _ r)) fun l => K.bnd (K.bnd (Clo.tm hi env) fun r => K.det (wr_partM _ r)) fun h => K.opt (rd_slice x l h))
  | .call f es, env => K.trunc (K.bnd (Clo.es es env) fun ds => hF f ds)
  | .blt b es, env => K.mono (c := cEs' C es + 0) (Nat.le_refl _) (K.bnd (Clo.rs es env) fun xs => K.opt (rd_builtin b xs))
  | .isin a ts, env => K.mono (c := cT C a + (0 + 0)) (Nat.le_refl _) (K.bnd (Clo.tm a env) fun x => K.bnd (K.opt (rd_isTys x ts)) fun _ => K.ret)
  | .comp own it g c e, env => K.mono (c := cIt C it + (line * (cT C c + cT C e) + 0)) (Nat.le_refl _) (K.bnd (Clo.it it env) fun iv => K.bnd (Clo.compAll K (fun d => by
    try simp only
    cases tgt g d (wipe env own) with
    | none => exact K.mono (Nat.zero_le _) K.stk
    | some env' =>
      refine K.noExc (K.mono (c := cT C c + 0 + cT C e) (by omega) (K.bnd (K.bnd (Clo.tm c env') fun r => K.det (wr_asB r)) fun r => ?_))
      cases r with
      | false => exact K.mono (Nat.zero_le _) K.ret
      | true => exact K.mono (c := cT C e + 0 + 0) (Nat.le_refl _) (K.bnd (K.bnd (Clo.tm e env') fun r => K.det (wr_settle r)) fun _ => K.ret)) iv) fun _ => K.ret)
  | .meth m a es, env => K.mono (c := cT C a + 0 + (0 + (cEs' C es + 0))) (by show _ ≤ cT C a + cEs' C es; omega) (K.bnd (K.bnd (Clo.tm a env) fun r => K.det (wr_settle r)) fun x => K.bnd (K.det (wr_isRefM x)) fun _ => K.bnd (Clo.es es env) fun xs => K.det (wr_method m x xs))
  | .dict0 t, _ => K.ret
  | .op1 o a, env => K.mono (c := cT C a + 0) (Nat.le_refl _) (K.bnd (Clo.tm a env) fun x => K.opt (rd_op1 o x))
  | .op2 o a b, env => K.bnd (Clo.tm a env) fun x => K.mono (c := cT C b + 0) (Nat.le_refl _) (K.bnd (Clo.tm b env) fun y => K.opt (rd_op2 o x y))
  | .never, _ => K.stk
theorem Clo.es : ∀ (es : Es) (env : Env), Rel (cEs' C es) (semEs F es env) (semEsN FN es env)
  | .nil, _ => K.ret
  | .cons e es, env => K.mono (c := cT C e + 0 + (cEs' C es + 0)) (Nat.le_refl _) (K.bnd (K.bnd (Clo.tm e env) fun r => K.det (wr_settle r)) fun d => K.bnd (Clo.es es env) fun _ => K.ret)
  | .star e es, env => K.mono (c := cT C e + (0 + (cEs' C es + 0))) (by show _ ≤ cT C e + cEs' C es; omega) (K.bnd (Clo.tm e env) fun x => K.bnd (K.opt (rd_asS x)) fun xs => K.bnd (Clo.es es env) fun _ => K.ret)
  | .plc e es, env => K.mono (c := cT C e + 0 + (cEs' C es + 0)) (Nat.le_refl _) (K.bnd (K.bnd (Clo.tm e env) fun r => K.det (wr_place r)) fun d => K.bnd (Clo.es es env) fun _ => K.ret)
theorem Clo.rs : ∀ (es : Es) (env : Env), Rel (cEs' C es) (semRs F es env) (semRsN FN es env)
  | .nil, _ => K.ret
  | .cons e es, env => K.mono (c := cT C e + (cEs' C es + 0)) (Nat.le_refl _) (K.bnd (Clo.tm e env) fun r => K.bnd (Clo.rs es env) fun _ => K.ret)
  | .star _ _, _ => K.mono (Nat.zero_le _) K.stk
  | .plc _ _, _ => K.mono (Nat.zero_le _) K.stk
theorem Clo.it : ∀ (t : Itm) (env : Env), Rel (cIt C t) (semIt F t env) (semItN FN t env)
  | .seq a, env => K.mono (c := cT C a + 0) (Nat.le_refl _) (K.bnd (Clo.tm a env) fun x => K.opt (rd_asIt x))
  | .rng es, env => K.mono (c := cEs' C es + 0) (Nat.le_refl _) (K.bnd (Clo.rs es env) fun xs => K.opt Rd.const)
  | .zip a b, env => K.bnd (Clo.tm a env) fun x => K.mono (c := cT C b + 0) (Nat.le_refl _) (K.bnd (Clo.tm b env) fun y => K.opt (rd_zipIt x y))
  | .enum a, env => K.mono (c := cT C a + 0) (Nat.le_refl _) (K.bnd (Clo.tm a env) fun x => K.opt (rd_enumIt x))
end
variable (fuel : Nat)
theorem Clo.b (t : Tm) (env : Env) : Rel (cT C t) (semB F t env) (semBN FN t env) := K.mono (c := cT C t + 0) (Nat.le_refl _) (K.bnd (Clo.tm K hF t env) fun r => K.det (wr_asB r))
mutual
theorem Clo.st : ∀ (s : Stm) (env : Env), Rel (cSt C fuel s) (exec F fuel s env) (execN FN fuel s env)
  | .asg g e, env => K.mono (c := cT C e + 0 + 0) (Nat.le_refl _) (K.bnd (K.bnd (Clo.tm K hF e env) fun r => K.det (wr_settle r)) fun d => by
    cases tgt g d env with
    | none => exact K.stk
    | some e => exact K.ret)
  | .asgP g e, env => K.mono (c := cT C e + 0 + 0) (Nat.le_refl _) (K.bnd (K.bnd (Clo.tm K hF e env) fun r => K.det (wr_place r)) fun d => by
    cases tgt g d env with
    | none => exact K.stk
    | some e => exact K.ret)
  | .par js es, env => K.mono (c := cEs' C es + 0) (Nat.le_refl _) (K.bnd (Clo.es K hF es env) fun ds => by
    cases sets js ds env with
    | none => exact K.stk
    | some e => exact K.ret)
  | .put a i e, env => K.mono (c := cT C e + 0 + (cT C a + (cT C i + (0 + 0)))) (by show _ ≤ cT C e + (cT C a + cT C i); omega) (K.bnd (K.bnd (Clo.tm K hF e env) fun r => K.det (wr_settle r)) fun d => K.bnd (Clo.tm K hF a env) fun x => K.bnd (Clo.tm K hF i env) fun y => K.bnd (K.det (wr_putAt x y d)) fun _ => K.ret)
  | .expr e, env => K.mono (c := cT C e + 0) (Nat.le_refl _) (K.bnd (Clo.tm K hF e env) fun _ => K.ret)
  | .ret e, env => K.mono (c := cT C e + 0) (Nat.le_refl _) (K.bnd (Clo.tm K hF e env) fun _ => K.ret)
  | .retN, _ => K.ret
  | .ite c a b, env => K.bnd (Clo.b K hF c env) fun r => by
    cases r with
    | true => exact K.mono (Nat.le_add_right _ _) (Clo.sts a env)
    | false => exact K.mono (Nat.le_add_left _ _) (Clo.sts b env)
  | .for_ it g s, env => K.bnd (Clo.it K hF it env) fun iv => Clo.forAll K (fun d e => by
    try simp only
    cases tgt g d e with
    | none => exact K.mono (Nat.zero_le _) K.stk
    | some e' => exact Clo.sts s e') iv env
  | .while_ c s, env => Clo.while_ K (fun e => Clo.b K hF c e) (fun e => Clo.sts s e) fuel env
  | .pass, env => K.ret
  | .brk, env => K.ret
  | .cont, env => K.ret
  | .never, _ => K.stk
theorem Clo.sts : ∀ (s : Stms) (env : Env), Rel (cSs' C fuel s) (execs F fuel s env) (execsN FN fuel s env)
  | .nil, env => K.ret
  | .cons s r, env => K.bnd (Clo.st s env) fun fl => by
    cases fl with
    | nx e => exact Clo.sts r e
    | rt x => exact K.mono (Nat.zero_le _) K.ret
    | bk e => exact K.mono (Nat.zero_le _) K.ret
    | ct e => exact K.mono (Nat.zero_le _) K.ret
end
theorem Clo.body (d : Df) (args : List D) : Rel (cSs' C fuel d.body) (runBody F fuel d args) (runBodyN FN fuel d args) := by
  unfold runBody runBodyN
  refine K.ite (K.mono (c := cSs' C fuel d.body + 0) (Nat.le_refl _) (K.bnd (Clo.sts K hF fuel d.body _) fun fl => ?_))
  cases fl with
  | nx e => exact K.ret
  | rt x => exact K.ret
  | bk e => exact K.stk
  | ct e => exact K.stk
end
end
/-- the draws of a call, k calls deep -/
def cPhi (fuel : Nat) (dfs : List Df) : Nat → Nat
  | 0 => 0
  | k + 1 => dfs.foldr (fun d m => max (cSs' (cPhi fuel dfs k) fuel d.body) m) 1
theorem fold_one {f : Df → Nat} : ∀ dfs : List Df, 1 ≤ dfs.foldr (fun d m => max (f d) m) 1
  | [] => Nat.le_refl _
  | d :: ds => Nat.le_trans (fold_one ds) (Nat.le_max_right _ _)
theorem fold_mem {f : Df → Nat} : ∀ {dfs : List Df} {d : Df}, d ∈ dfs → f d ≤ dfs.foldr (fun d m => max (f d) m) 1
  | d :: ds, e, h => by
    rcases List.mem_cons.mp h with rfl | h
    · exact Nat.le_max_left _ _
    · exact Nat.le_trans (fold_mem h) (Nat.le_max_right _ _)
theorem Clo.phi {Rel : Nat → ∀ {α : Type}, Md α → PT α → Prop} (K : Clo Rel) {sp : Spec} {fuel : Nat} {dfs : List Df}
    (hs : ∀ k f g args body, sp f = some g → Rel (cPhi fuel dfs (k + 1)) (Phi fuel (fun i => dfs[i]?) (k + 1) f args) body → Rel (cPhi fuel dfs (k + 1)) (Phi fuel (fun i => dfs[i]?) (k + 1) f args) (g args body)) :
    ∀ (k f : Nat) (args : List D), Rel (cPhi fuel dfs k) (Phi fuel (fun i => dfs[i]?) k f args) (PhiN sp fuel (fun i => dfs[i]?) k f args)
  | 0, f, args => K.stk
  | k + 1, f, args => by
    have main : Rel (cPhi fuel dfs (k + 1)) (Phi fuel (fun i => dfs[i]?) (k + 1) f args) (match dfs[f]? with
      | some d => runBodyN (PhiN sp fuel (fun i => dfs[i]?) k) fuel d args
      | none => stkN) := by
      show Rel _ (match dfs[f]? with
        | some d => runBody (Phi fuel (fun i => dfs[i]?) k) fuel d args
        | none => Q.stk) _
      cases e : dfs[f]? with
      | none => exact K.mono (Nat.zero_le _) K.stk
      | some d => exact K.mono (fold_mem (f := fun d => cSs' (cPhi fuel dfs k) fuel d.body) (List.mem_of_getElem? e)) (Clo.body K (Clo.phi K hs k) fuel d args)
    show Rel _ _ (match sp f with
      | some g => g args (match dfs[f]? with
        | some d => runBodyN (PhiN sp fuel (fun i => dfs[i]?) k) fuel d args
        | none => stkN)
      | none => (match dfs[f]? with
        | some d => runBodyN (PhiN sp fuel (fun i => dfs[i]?) k) fuel d args
        | none => stkN))
    cases e : sp f with
    | none => exact main
    | some g => exact hs k f g args _ e main
end Q
end

section
set_option Elab.async false
set_option linter.all false
set_option maxRecDepth 100000
/-! Three relations: what runs outright is so; what is so runs outright; what is so for all draws runs with those of the law. -/
namespace Q
/-! ### what runs outright is so -/
def RelD (_ : Nat) {α : Type} (x : Md α) (y : PT α) : Prop := ∀ M R X, (match x M with
  | .ok a M' => R a M'
  | .exc c p M' => X c p M'
  | .stuck => False) → y M R X
theorem cloD : Clo @RelD where
  det := fun _ M R X h => h
  mono := fun _ h => h
  bnd := fun {α β c c' x y f g} h k M R X q => by
    refine h M _ X ?_
    unfold bnd at q
    cases e : x M with
    | ok a M' => rw [e] at q; exact k a M' R X q
    | exc c p M' => rw [e] at q; exact q
    | stuck => rw [e] at q; exact q
  noExc := fun {α c x y} h M R X q => by
    refine h M R _ ?_
    unfold noExc at q
    cases e : x M with
    | ok a M' => rw [e] at q; exact q
    | exc c p M' => rw [e] at q; exact q
    | stuck => rw [e] at q; exact q
  trunc := fun {c x y} h M R X q => by
    refine h M _ X ?_
    cases e : x M with
    | ok a M' =>
      simp only [e] at q
      simp only
      cases ht : trunc M (.ok a M') <;> rw [ht] at q <;> exact q
    | exc c p M' => simp only [e] at q; exact q
    | stuck => simp only [e] at q; exact q
/-! ### what is so runs outright -/
def RelR (_ : Nat) {α : Type} (x : Md α) (y : PT α) : Prop := ∀ M R X, y M R X → match x M with
  | .ok a M' => R a M'
  | .exc c p M' => X c p M'
  | .stuck => False
theorem cloR : Clo @RelR where
  det := fun _ M R X h => h
  mono := fun _ h => h
  bnd := fun {α β c c' x y f g} h k M R X q => by
    have := h M _ X q
    unfold bnd
    cases e : x M with
    | ok a M' => rw [e] at this; exact k a M' R X this
    | exc c p M' => rw [e] at this; exact this
    | stuck => rw [e] at this; exact this
  noExc := fun {α c x y} h M R X q => by
    have := h M R _ q
    unfold noExc
    cases e : x M with
    | ok a M' => rw [e] at this; exact this
    | exc c p M' => rw [e] at this; exact this.elim
    | stuck => rw [e] at this; exact this
  trunc := fun {c x y} h M R X q => by
    have := h M _ X q
    cases e : x M with
    | ok a M' =>
      rw [e] at this
      simp only [e] at this ⊢
      cases ht : trunc M (.ok a M') <;> rw [ht] at this <;> exact this
    | exc c p M' => rw [e] at this; simp only [e]; exact this
    | stuck => rw [e] at this; exact this.elim
/-! ### draws -/
/-- at most n binary places -/
def Bn (n : Nat) (i : Int) : Prop := i.natAbs ≤ 2 ^ n
abbrev Sp := Int × Int × Int
def spO (s : Sp) : Ob := .lst [.int s.1, .int s.2.1, .int s.2.2]
def SpOk (n : Nat) (s : Sp) : Prop := 0 ≤ s.1 ∧ Bn 1100 s.1 ∧ 0 ≤ s.2.1 ∧ Bn 90 s.2.1 ∧ 0 ≤ s.2.2 ∧ s.2.2 ≤ n
theorem SpOk.mono {m n : Nat} {s : Sp} (h : SpOk m s) (l : m ≤ n) : SpOk n s := ⟨h.1, h.2.1, h.2.2.1, h.2.2.2.1, h.2.2.2.2.1, by have := h.2.2.2.2.2; omega⟩
@[irreducible] def BIG : Nat := 2 ^ 800000
def RelA (p : Nat) (c : Nat) {α : Type} (x : Md α) (y : PT α) : Prop := ∀ (M : Ar) (n : Nat) (s : Sp) R X, M[p]? = some .spn → SpOk n s → n + c ≤ BIG → y M R X →
  match x (M.set p (spO s)) with
  | .ok a M' => ∃ M'' s', M' = M''.set p (spO s') ∧ M''[p]? = some .spn ∧ SpOk (n + c) s' ∧ R a M''
  | .exc k d M' => ∃ M'' s', M' = M''.set p (spO s') ∧ M''[p]? = some .spn ∧ SpOk (n + c) s' ∧ X k d M''
  | .stuck => False
theorem okOld_spn {n p : Nat} {s s' : Sp} : ∀ {M M' : Ar}, M[p]? = some .spn → M'[p]? = some .spn → okOld n (M.set p (spO s)) (M'.set p (spO s')) = okOld n M M'
  | [], _, h, _ => by simp at h
  | _ :: _, [], _, h => by simp at h
  | o :: os, o' :: os', h, g => by
    cases p with
    | zero =>
      simp at h g
      subst h; subst g
      show (((spO s').refsLt n || _) && okOld n os os') = ((Ob.spn.refsLt n || _) && okOld n os os')
      rfl
    | succ p =>
      show (_ && okOld n (os.set p (spO s)) (os'.set p (spO s'))) = (_ && okOld n os os')
      rw [okOld_spn (p := p) (by simpa using h) (by simpa using g)]
theorem mapM_eq {α β : Type} {f g : α → Option β} : ∀ {xs : List α}, (∀ x ∈ xs, f x = g x) → xs.mapM f = xs.mapM g
  | [], _ => by rw [List.mapM_nil, List.mapM_nil]
  | x :: xs, h => by
    rw [List.mapM_cons, List.mapM_cons, h x List.mem_cons_self, mapM_eq fun y hy => h y (List.mem_cons_of_mem _ hy)]
theorem relD_spn {b av p : Nat} {o : Ob} (hp : p < b) : ∀ (k : Nat) (d : D) (M : Ar), relD (M.set p o) b av k d = relD M b av k d
  | 0, d, M => by simp [relD]
  | k + 1, d, M => by
    have ih := fun d => relD_spn (av := av) (o := o) hp k d M
    cases d with
    | tup ds => simp only [relD]; rw [mapM_eq fun x _ => ih x]
    | rl ds => simp only [relD]; rw [mapM_eq fun x _ => ih x]
    | vl ds => simp only [relD]; rw [mapM_eq fun x _ => ih x]
    | vd t ks vs => simp only [relD]; rw [mapM_eq fun x _ => ih x]
    | ref n =>
      simp only [relD]
      by_cases hn : n < b
      · rw [if_pos hn, if_pos hn]
      · rw [if_neg hn, if_neg hn, List.getElem?_set_ne (by omega)]
        by_cases ha : n = av
        · rw [if_pos ha, if_pos ha]
        · rw [if_neg ha, if_neg ha]
          cases M[n]? with
          | none => rfl
          | some u =>
            cases u with
            | lst ds => simp only; rw [mapM_eq fun x _ => ih x]
            | dct t ks vs => simp only; rw [mapM_eq fun x _ => ih x]
            | spn => rfl
    | _ => simp only [relD]
theorem relR_spn {b p : Nat} {o : Ob} (hp : p < b) (M : Ar) (r : Rv) : relR (M.set p o) b r = relR M b r := by
  have many : ∀ (av : Nat) (ds : List D), relL (M.set p o) b av ds = relL M b av ds := fun av ds => by
    unfold relL
    rw [mapM_eq fun x _ => relD_spn hp 30 x M]
  have one : ∀ d, (if D.refsLt b d then some (Rv.d d) else (relD (M.set p o) b (M.set p o).length 30 d).map Rv.d) = (if D.refsLt b d then some (Rv.d d) else (relD M b M.length 30 d).map Rv.d) := fun d => by rw [List.length_set, relD_spn hp 30 d M]
  cases r with
  | l ds =>
    show (relL (M.set p o) b (M.set p o).length ds).map Rv.l = (relL M b M.length ds).map Rv.l
    rw [List.length_set, many]
  | m t ks vs =>
    show (relL (M.set p o) b (M.set p o).length vs).map (Rv.m t ks) = (relL M b M.length vs).map (Rv.m t ks)
    rw [List.length_set, many]
  | d d =>
    cases d with
    | ref n =>
      show (if n < b then some (Rv.d (.ref n)) else match (M.set p o)[n]? with
        | some (.lst ds) => (relL (M.set p o) b n ds).map Rv.l
        | some (.dct t ks vs) => (relL (M.set p o) b n vs).map (Rv.m t ks)
        | _ => none) = (if n < b then some (Rv.d (.ref n)) else match M[n]? with
        | some (.lst ds) => (relL M b n ds).map Rv.l
        | some (.dct t ks vs) => (relL M b n vs).map (Rv.m t ks)
        | _ => none)
      by_cases hn : n < b
      · rw [if_pos hn, if_pos hn]
      · rw [if_neg hn, if_neg hn, List.getElem?_set_ne (by omega)]
        cases M[n]? with
        | none => rfl
        | some u =>
          cases u with
          | lst ds => simp only; rw [many]
          | dct t ks vs => simp only; rw [many]
          | spn => rfl
    | non => exact one .non
    | bl b => exact one (.bl b)
    | int b => exact one (.int b)
    | str b => exact one (.str b)
    | tup b => exact one (.tup b)
    | rl b => exact one (.rl b)
    | vl b => exact one (.vl b)
    | vd t ks vs => exact one (.vd t ks vs)
theorem trunc_spn {p : Nat} {M M' : Ar} {s s' : Sp} {r : Rv} (h : M[p]? = some .spn) (g : M'[p]? = some .spn) :
    trunc (M.set p (spO s)) (.ok r (M'.set p (spO s'))) = (match trunc M (.ok r M') with
      | .ok r' M'' => .ok r' (M''.set p (spO s'))
      | x => x) ∧ ∀ r' M'', trunc M (.ok r M') = .ok r' M'' → M''[p]? = some .spn := by
  have hp := (List.getElem?_eq_some_iff.mp h).1
  unfold trunc
  simp only [List.length_set]
  rw [okOld_spn h g, relR_spn hp]
  by_cases c : (decide (M.length < M'.length) && okOld M.length M M') = true
  · rw [if_pos c, if_pos c]
    cases relR M' M.length r with
    | none => exact ⟨rfl, fun r' M'' e => by cases e; exact g⟩
    | some r' => exact ⟨by simp only; rw [List.take_set], fun r' M'' e => by cases e; rw [List.getElem?_take_of_lt hp]; exact g⟩
  · rw [if_neg c, if_neg c]
    exact ⟨rfl, fun r' M'' e => by cases e; exact g⟩
theorem trunc_ok' {M : Ar} {r : Rv} {M' : Ar} : ∃ r' M'', trunc M (.ok r M') = .ok r' M'' := by
  unfold trunc
  simp only
  split
  · split <;> exact ⟨_, _, rfl⟩
  · exact ⟨_, _, rfl⟩
theorem cloA (p : Nat) : Clo (@RelA p) where
  mono := fun {α c c' x y} hc h M n s R X hs ok hn q => by
    have := h M n s R X hs ok (by omega) q
    cases e : x (M.set p (spO s)) with
    | ok a M' => rw [e] at this; obtain ⟨M'', s', g1, g2, g3, g4⟩ := this; exact ⟨M'', s', g1, g2, g3.mono (by omega), g4⟩
    | exc k d M' => rw [e] at this; obtain ⟨M'', s', g1, g2, g3, g4⟩ := this; exact ⟨M'', s', g1, g2, g3.mono (by omega), g4⟩
    | stuck => rw [e] at this; exact this
  det := fun {α x} w M n s R X hs ok hn q => by
    unfold dN at q
    cases e : x M with
    | ok a M' =>
      rw [e] at q
      obtain ⟨g1, g2⟩ := w.ok M p (spO s) a M' hs e
      rw [g2]
      exact ⟨M', s, rfl, g1, ok, q⟩
    | exc k d M' => exact absurd e (w.exc M k d M')
    | stuck => rw [e] at q; exact q.elim
  bnd := fun {α β c c' x y f g} h k M n s R X hs ok hn q => by
    have := h M n s _ X hs ok (by omega) q
    unfold bnd
    cases e : x (M.set p (spO s)) with
    | ok a M' =>
      rw [e] at this
      obtain ⟨M'', s', g1, g2, g3, g4⟩ := this
      subst g1
      have := k a M'' (n + c) s' R X g2 g3 (by omega) g4
      rw [← Nat.add_assoc]; exact this
    | exc k d M' =>
      rw [e] at this
      obtain ⟨M'', s', g1, g2, g3, g4⟩ := this
      exact ⟨M'', s', g1, g2, g3.mono (by omega), g4⟩
    | stuck => rw [e] at this; exact this
  noExc := fun {α c x y} h M n s R X hs ok hn q => by
    have := h M n s R _ hs ok hn q
    unfold noExc
    cases e : x (M.set p (spO s)) with
    | ok a M' => rw [e] at this; exact this
    | exc k d M' => rw [e] at this; obtain ⟨M'', s', g1, g2, g3, g4⟩ := this; exact g4.elim
    | stuck => rw [e] at this; exact this
  trunc := fun {c x y} h M n s R X hs ok hn q => by
    have := h M n s _ X hs ok hn q
    cases e : x (M.set p (spO s)) with
    | ok a M' =>
      rw [e] at this
      obtain ⟨M'', s', g1, g2, g3, g4⟩ := this
      subst g1
      obtain ⟨t1, t2⟩ := trunc_spn (s := s) (s' := s') (r := a) hs g2
      obtain ⟨r', N, e2⟩ := @trunc_ok' M a M''
      simp only [e]
      rw [t1, e2]
      rw [e2] at g4
      exact ⟨N, s', rfl, t2 r' N e2, g3, g4⟩
    | exc k d M' => rw [e] at this; simp only [e]; exact this
    | stuck => rw [e] at this; exact this.elim
end Q
end

section
set_option Elab.async false
set_option linter.all false
set_option maxRecDepth 100000
/-! Rules for plain proofs: each leads a goal about a term to goals about its parts. Heads are irreducible: no tactic runs the text by itself. -/
namespace Q
/-! what is reckoned, not to be looked into -/
@[irreducible] def oBin (o : Bop) (x y : Rv) (M : Ar) : Option Rv := binop o x y M
theorem oBin_eq : @oBin = @binop := by unfold oBin; rfl
@[irreducible] def oCmp (o : Cop) (x y : Rv) (M : Ar) : Option Bool := cmpop o x y M
theorem oCmp_eq : @oCmp = @cmpop := by unfold oCmp; rfl
@[irreducible] def oIdx (x y : Rv) (M : Ar) : Option Rv := index x y M
theorem oIdx_eq : @oIdx = @index := by unfold oIdx; rfl
@[irreducible] def oSlc (x : Rv) (l h : Option Int) (M : Ar) : Option Rv := slice x l h M
theorem oSlc_eq : @oSlc = @slice := by unfold oSlc; rfl
@[irreducible] def oBlt (b : Blt) (xs : List Rv) (M : Ar) : Option Rv := builtin b xs M
theorem oBlt_eq : @oBlt = @builtin := by unfold oBlt; rfl
@[irreducible] def oIsin (M : Ar) (x : Rv) (ts : List Ty) : Option Bool := isTys M x ts
theorem oIsin_eq : @oIsin = @isTys := by unfold oIsin; rfl
@[irreducible] def oOp1 (o : Op1) (x : Rv) (M : Ar) : Option Rv := op1 o x M
theorem oOp1_eq : @oOp1 = @op1 := by unfold oOp1; rfl
@[irreducible] def oOp2 (o : Op2) (x y : Rv) (M : Ar) : Option Rv := op2 o x y M
theorem oOp2_eq : @oOp2 = @op2 := by unfold oOp2; rfl
@[irreducible] def oIt (x : Rv) (M : Ar) : Option Itv := asIt x M
theorem oIt_eq : @oIt = @asIt := by unfold oIt; rfl
@[irreducible] def oRng (xs : List Rv) (M : Ar) : Option Itv := rangeIt xs M
theorem oRng_eq : @oRng = @rangeIt := by unfold oRng; rfl
@[irreducible] def oZip (x y : Rv) (M : Ar) : Option Itv := zipIt x y M
theorem oZip_eq : @oZip = @zipIt := by unfold oZip; rfl
@[irreducible] def oEnum (x : Rv) (M : Ar) : Option Itv := enumIt x M
theorem oEnum_eq : @oEnum = @enumIt := by unfold oEnum; rfl
@[irreducible] def oAsS (M : Ar) (x : Rv) : Option (List D) := asS M x
theorem oAsS_eq : @oAsS = @asS := by unfold oAsS; rfl
@[irreducible] def oTgt (g : Tg) (d : D) (e : Env) : Option Env := tgt g d e
theorem oTgt_eq : @oTgt = @tgt := by unfold oTgt; rfl
@[irreducible] def oTgts (g : Tgs) (d : List D) (e : Env) : Option Env := tgts g d e
theorem oTgts_eq : @oTgts = @tgts := by unfold oTgts; rfl
@[irreducible] def oSets (g : List Nat) (d : List D) (e : Env) : Option Env := sets g d e
theorem oSets_eq : @oSets = @sets := by unfold oSets; rfl
@[irreducible] def CA (f : D → PT (Option D)) (iv : Itv) : PT (List D) := compAllN f iv
theorem CA_eq : CA = compAllN := by unfold CA; rfl
@[irreducible] def FA (f : D → Env → PT Fl) (iv : Itv) (env : Env) : PT Fl := forAllN f iv env
theorem FA_eq : FA = forAllN := by unfold FA; rfl
@[irreducible] def MT (m : Mth) (x : D) (xs : List D) : PT Rv := methodN m x xs
theorem MT_eq : MT = methodN := by unfold MT; rfl
@[irreducible] def IR (d : D) : PT Unit := isRefN d
theorem IR_eq : IR = isRefN := by unfold IR; rfl
section
variable {α : Type}
@[irreducible] def SE (F : Nat → List D → PT Rv) (t : Tm) (env : Env) : PT Rv := semN F t env
@[irreducible] def SA (F : Nat → List D → PT Rv) (t : Es) (env : Env) : PT (List D) := semEsN F t env
@[irreducible] def SR (F : Nat → List D → PT Rv) (t : Es) (env : Env) : PT (List Rv) := semRsN F t env
@[irreducible] def SI (F : Nat → List D → PT Rv) (t : Itm) (env : Env) : PT Itv := semItN F t env
@[irreducible] def SS (F : Nat → List D → PT Rv) (fuel : Nat) (t : Stm) (env : Env) : PT Fl := execN F fuel t env
@[irreducible] def SSs (F : Nat → List D → PT Rv) (fuel : Nat) (t : Stms) (env : Env) : PT Fl := execsN F fuel t env
@[irreducible] def PH (sp : Spec) (fuel : Nat) (T : Nat → Option Df) (k : Nat) (f : Nat) (args : List D) : PT Rv := PhiN sp fuel T k f args
theorem PH_eq {sp : Spec} {fuel : Nat} {T : Nat → Option Df} {k : Nat} : PH sp fuel T k = PhiN sp fuel T k := by funext f args; unfold PH; rfl
@[irreducible] def optP (o : Option α) (R : α → Prop) : Prop := match o with
  | some a => R a
  | none => False
@[irreducible] def isB (r : Rv) (R : Bool → Prop) : Prop := match r with
  | .d (.bl b) => R b
  | _ => False
@[irreducible] def isI (r : Rv) (R : Int → Prop) : Prop := match r with
  | .d (.int i) => R i
  | _ => False
@[irreducible] def getP (env : Env) (i : Nat) (R : Rv → Prop) : Prop := match env[i]? with
  | some (some d) => R (.d d)
  | _ => False
@[irreducible] def ifB (b : Bool) (p q : Prop) : Prop := match b with
  | true => p
  | false => q
/-- a value's new place -/
@[irreducible] def plc (r : Rv) (M : Ar) (R : D → Ar → Prop) : Prop := match r with
  | .d d => R d M
  | .l ds => R (.ref M.length) (M ++ [.lst ds])
  | .m t ks vs => R (.ref M.length) (M ++ [.dct t ks vs])
@[irreducible] def TQ (M : Ar) (r : Rv) (M' : Ar) (R : Rv → Ar → Prop) : Prop := match trunc M (.ok r M') with
  | .ok r' M'' => R r' M''
  | _ => False
@[irreducible] def nxt (fl : Fl) (M : Ar) (k : Env → Prop) (R : Fl → Ar → Prop) : Prop := match fl with
  | .nx e => k e
  | .rt r => R (.rt r) M
  | .bk e => R (.bk e) M
  | .ct e => R (.ct e) M
@[irreducible] def finR (fl : Fl) (R : Rv → Prop) : Prop := match fl with
  | .nx _ => R (.d .non)
  | .rt r => R r
  | _ => False
theorem o_some {a : α} {R : α → Prop} (h : R a) : optP (some a) R := by unfold optP; exact h
theorem o_eq {o : Option α} {a : α} {R : α → Prop} (e : o = some a) (h : R a) : optP o R := by rw [e]; exact o_some h
theorem o_get {o : Option α} {R : α → Prop} (h : optP o R) : ∃ a, o = some a ∧ R a := by
  unfold optP at h
  cases o with
  | none => exact h.elim
  | some a => exact ⟨a, rfl, h⟩
theorem b_bl {b : Bool} {R : Bool → Prop} (h : R b) : isB (.d (.bl b)) R := by unfold isB; exact h
theorem i_int {i : Int} {R : Int → Prop} (h : R i) : isI (.d (.int i)) R := by unfold isI; exact h
theorem g_0 {d : D} {e : Env} {R : Rv → Prop} (h : R (.d d)) : getP (some d :: e) 0 R := by unfold getP; exact h
theorem g_s {o : Option D} {e : Env} {i : Nat} {R : Rv → Prop} (h : getP e i R) : getP (o :: e) (i + 1) R := by unfold getP at h ⊢; exact h
theorem g_eq {env : Env} {i : Nat} {d : D} {R : Rv → Prop} (e : env[i]? = some (some d)) (h : R (.d d)) : getP env i R := by unfold getP; rw [e]; exact h
theorem if_t {p q : Prop} (h : p) : ifB true p q := by unfold ifB; exact h
theorem if_f {p q : Prop} (h : q) : ifB false p q := by unfold ifB; exact h
theorem if_b {b : Bool} {p q : Prop} (h : b = true → p) (g : b = false → q) : ifB b p q := by
  unfold ifB
  cases b with
  | true => exact h rfl
  | false => exact g rfl
theorem p_d {d : D} {M : Ar} {R : D → Ar → Prop} (h : R d M) : plc (.d d) M R := by unfold plc; exact h
theorem p_l {ds : List D} {M : Ar} {R : D → Ar → Prop} (h : R (.ref M.length) (M ++ [.lst ds])) : plc (.l ds) M R := by unfold plc; exact h
theorem p_m {t : Bool} {ks vs : List D} {M : Ar} {R : D → Ar → Prop} (h : R (.ref M.length) (M ++ [.dct t ks vs])) : plc (.m t ks vs) M R := by unfold plc; exact h
theorem n_nx {e : Env} {M : Ar} {k : Env → Prop} {R : Fl → Ar → Prop} (h : k e) : nxt (.nx e) M k R := by unfold nxt; exact h
theorem n_rt {r : Rv} {M : Ar} {k : Env → Prop} {R : Fl → Ar → Prop} (h : R (.rt r) M) : nxt (.rt r) M k R := by unfold nxt; exact h
theorem n_bk {e : Env} {M : Ar} {k : Env → Prop} {R : Fl → Ar → Prop} (h : R (.bk e) M) : nxt (.bk e) M k R := by unfold nxt; exact h
theorem n_ct {e : Env} {M : Ar} {k : Env → Prop} {R : Fl → Ar → Prop} (h : R (.ct e) M) : nxt (.ct e) M k R := by unfold nxt; exact h
theorem f_nx {e : Env} {R : Rv → Prop} (h : R (.d .non)) : finR (.nx e) R := by unfold finR; exact h
theorem f_rt {r : Rv} {R : Rv → Prop} (h : R r) : finR (.rt r) R := by unfold finR; exact h
end
section
variable {α : Type} {M : Ar} {F : Nat → List D → PT Rv} {fuel : Nat} {env : Env} {X : Nat → D → Ar → Prop}
theorem optN_of {f : Ar → Option α} {R : α → Ar → Prop} (h : optP (f M) fun a => R a M) : optN f M R X := by
  obtain ⟨a, e, h⟩ := o_get h
  unfold optN dN opt
  rw [e]; exact h
theorem asBN_of {r : Rv} {R : Bool → Ar → Prop} (h : isB r fun b => R b M) : asBN r M R X := by
  unfold isB at h
  unfold asBN dN asB
  split at h
  · exact h
  · exact h.elim
theorem placeN_of {r : Rv} {R : D → Ar → Prop} (h : plc r M R) : placeN r M R X := by
  unfold plc at h
  cases r <;> exact h
/-! ### expressions -/
theorem e_var {i : Nat} {R : Rv → Ar → Prop} (h : getP env i fun r => R r M) : SE F (.var i) env M R X := by
  unfold getP at h
  unfold SE
  show dN (getV env i) M R X
  unfold dN getV
  split at h
  · rename_i e; rw [e]; exact h
  · exact h.elim
theorem e_cst {d : D} {R : Rv → Ar → Prop} (h : R (.d d) M) : SE F (.cst d) env M R X := by unfold SE; exact h
/-- what follows is kept when the wish is made less -/
def MonoN (y : PT α) : Prop := ∀ M R R' X X', (∀ a M', R a M' → R' a M') → (∀ c d M', X c d M' → X' c d M') → y M R X → y M R' X'
def MonoF (F : Nat → List D → PT Rv) : Prop := ∀ f ds, MonoN (F f ds)
theorem cloM : Clo (fun (_ : Nat) {α : Type} (_ : Md α) (y : PT α) => MonoN y) where
  det := fun {α x} _ M R R' X X' h g q => by
    unfold dN at q ⊢
    cases e : x M with
    | ok a M' => rw [e] at q; exact h _ _ q
    | exc c p M' => rw [e] at q; exact g _ _ _ q
    | stuck => rw [e] at q; exact q
  mono := fun _ h => h
  bnd := fun hx hf M R R' X X' h g q => hx M _ _ X X' (fun a M' q => hf a M' R R' X X' h g q) g q
  noExc := fun hx M R R' X X' h g q => hx M _ _ _ _ h (fun _ _ _ z => z) q
  trunc := fun hx M R R' X X' h g q => hx M _ _ X X' (fun r M' q => by
    cases ht : trunc M (.ok r M') with
    | ok a M' => rw [ht] at q; exact h _ _ q
    | exc c p M' => rw [ht] at q; exact g _ _ _ q
    | stuck => rw [ht] at q; exact q) g q
theorem SE.mono (hF : MonoF F) {t : Tm} : MonoN (SE F t env) := by
  unfold SE
  exact Clo.tm (F := fun _ _ => stk) (C := 0) cloM hF t env
theorem SSs.mono (hF : MonoF F) {t : Stms} : MonoN (SSs F fuel t env) := by
  unfold SSs
  exact Clo.sts (F := fun _ _ => stk) (C := 0) cloM hF fuel t env
theorem SS.mono (hF : MonoF F) {t : Stm} : MonoN (SS F fuel t env) := by
  unfold SS
  exact Clo.st (F := fun _ _ => stk) (C := 0) cloM hF fuel t env
theorem SI.mono (hF : MonoF F) {t : Itm} : MonoN (SI F t env) := by
  unfold SI
  exact Clo.it (F := fun _ _ => stk) (C := 0) cloM hF t env
/-- a spec that keeps this -/
def MonoS (sp : Spec) : Prop := ∀ f g, sp f = some g → ∀ args body, MonoN body → MonoN (g args body)
theorem phi_mono {sp : Spec} (hs : MonoS sp) {T : Nat → Option Df} : ∀ k : Nat, MonoF (PhiN sp fuel T k)
  | 0 => fun f args M R R' X X' h g q => q
  | k + 1 => fun f args => by
    have body : MonoN (match T f with
      | some d => runBodyN (PhiN sp fuel T k) fuel d args
      | none => stkN) := by
      cases T f with
      | none => exact fun M R R' X X' h g q => q
      | some d => exact Clo.body (F := fun _ _ => stk) (C := 0) cloM (phi_mono hs k) fuel d args
    show MonoN (match sp f with
      | some g => g args (match T f with
        | some d => runBodyN (PhiN sp fuel T k) fuel d args
        | none => stkN)
      | none => (match T f with
        | some d => runBodyN (PhiN sp fuel T k) fuel d args
        | none => stkN))
    cases e : sp f with
    | none => exact body
    | some g => exact hs f g e args _ body
theorem PH.mono {sp : Spec} (hs : MonoS sp) {T : Nat → Option Df} {k : Nat} : MonoF (PH sp fuel T k) := by
  rw [PH_eq]; exact phi_mono hs k
theorem monoS_none : MonoS spNone := fun _ _ h => by cases h
theorem monoS_spin {fs p : Nat} : MonoS (spSpin fs p) := fun f g h args body hb => by
  unfold spSpin at h
  split at h
  · cases h
    intro M R R' X X' hr hx q
    unfold spinN at q ⊢
    split at q
    · split at q
      · rename_i hc
        try simp only
        rw [if_pos hc]
        exact ⟨q.1, q.2.1, fun r h0 h1 => hr _ _ (q.2.2 r h0 h1)⟩
      · rename_i hc
        try simp only
        rw [if_neg hc]
        exact hb M R R' X X' hr hx q
    · exact hb M R R' X X' hr hx q
  · cases h
end
end Q
end

section
set_option Elab.async false
set_option linter.all false
set_option maxRecDepth 100000
namespace Q
section
variable {α : Type} {M : Ar} {F : Nat → List D → PT Rv} {fuel : Nat} {env : Env} {X : Nat → D → Ar → Prop} (hF : MonoF F)
/-- the wish behind, at a part -/
theorem SE.to (hF : MonoF F) {t : Tm} {R R' : Rv → Ar → Prop} (h : SE F t env M R X) (m : ∀ r M', R r M' → R' r M') : SE F t env M R' X := SE.mono hF _ _ _ _ _ m (fun _ _ _ z => z) h
include hF
theorem e_neg {a : Tm} {R : Rv → Ar → Prop} (h : SE F a env M (fun r M' => isI r fun i => R (.d (.int (-i))) M') X) : SE F (.neg a) env M R X := by
  have h := SE.to hF (R' := fun r M' => (match r with | .d (.int i) => retN (Rv.d (.int (-i))) | _ => stkN) M' R X) h fun r M' q => by
    unfold isI at q
    split at q
    · exact q
    · exact q.elim
  unfold SE at h ⊢
  exact h
theorem e_nt {a : Tm} {R : Rv → Ar → Prop} (h : SE F a env M (fun r M' => isB r fun b => R (.d (.bl (!b))) M') X) : SE F (.nt a) env M R X := by
  have h := SE.to hF (R' := fun r M' => asBN r M' (fun b M' => R (.d (.bl (!b))) M') X) h fun r M' q => asBN_of q
  unfold SE at h ⊢
  exact h
theorem e_bin {o : Bop} {a b : Tm} {R : Rv → Ar → Prop} (h : SE F a env M (fun x M1 => SE F b env M1 (fun y M2 => optP (oBin o x y M2) (fun r => R r M2)) X) X) : SE F (.bin o a b) env M R X := by
  simp only [oBin_eq, oCmp_eq, oIdx_eq, oSlc_eq, oBlt_eq, oIsin_eq, oIt_eq, oRng_eq, oZip_eq, oEnum_eq, oAsS_eq, oTgt_eq, oTgts_eq, oSets_eq, CA_eq, FA_eq, MT_eq, IR_eq] at *
  have h := SE.to hF (R' := fun x M1 => SE F b env M1 (fun y M2 => optN (binop o x y) M2 R X) X) h fun r M' q => SE.to hF q fun r M' q => optN_of q
  unfold SE at h ⊢
  exact h
theorem e_cmp {o : Cop} {a b : Tm} {R : Rv → Ar → Prop} (h : SE F a env M (fun x M1 => SE F b env M1 (fun y M2 => optP (oCmp o x y M2) (fun r => R (.d (.bl r)) M2)) X) X) : SE F (.cmp o a b) env M R X := by
  simp only [oBin_eq, oCmp_eq, oIdx_eq, oSlc_eq, oBlt_eq, oIsin_eq, oIt_eq, oRng_eq, oZip_eq, oEnum_eq, oAsS_eq, oTgt_eq, oTgts_eq, oSets_eq, CA_eq, FA_eq, MT_eq, IR_eq] at *
  have h := SE.to hF (R' := fun x M1 => SE F b env M1 (fun y M2 => optN (cmpop o x y) M2 (fun r M => R (.d (.bl r)) M) X) X) h fun r M' q => SE.to hF q fun r M' q => optN_of q
  unfold SE at h ⊢
  exact h
theorem e_chain {o p : Cop} {a b c : Tm} {R : Rv → Ar → Prop} (h : SE F a env M (fun x M1 => SE F b env M1 (fun y M2 => optP (oCmp o x y M2) (fun r => ifB r (SE F c env M2 (fun z M3 => optP (oCmp p y z M3) (fun r => R (.d (.bl r)) M3)) X) (R (.d (.bl false)) M2))) X) X) : SE F (.chain o p a b c) env M R X := by
  simp only [oBin_eq, oCmp_eq, oIdx_eq, oSlc_eq, oBlt_eq, oIsin_eq, oIt_eq, oRng_eq, oZip_eq, oEnum_eq, oAsS_eq, oTgt_eq, oTgts_eq, oSets_eq, CA_eq, FA_eq, MT_eq, IR_eq] at *
  have h := SE.to hF (R' := fun x M1 => SE F b env M1 (fun y M2 => optN (cmpop o x y) M2 (fun r M2 => (match r with
    | true => bndN (semN F c env) fun z => bndN (optN (cmpop p y z)) fun r => retN (Rv.d (.bl r))
    | false => retN (Rv.d (.bl false))) M2 R X) X) X) h fun r M' q => SE.to hF q fun r2 M2 q => optN_of (by
      obtain ⟨b, e, q⟩ := o_get q
      refine o_eq e ?_
      unfold ifB at q
      cases b with
      | false => exact q
      | true =>
        have q := SE.to hF (R' := fun z M3 => optN (cmpop p r2 z) M3 (fun r M => R (.d (.bl r)) M) X) q fun r M' q => optN_of q
        unfold SE at q
        exact q)
  unfold SE at h ⊢
  exact h
theorem e_and {a b : Tm} {R : Rv → Ar → Prop} (h : SE F a env M (fun r M1 => isB r fun r => ifB r (SE F b env M1 (fun r M2 => isB r fun r => R (.d (.bl r)) M2) X) (R (.d (.bl false)) M1)) X) : SE F (.and a b) env M R X := by
  have h := SE.to hF (R' := fun r M1 => asBN r M1 (fun r M1 => (match r with
    | true => bndN (bndN (semN F b env) asBN) fun r => retN (Rv.d (.bl r))
    | false => retN (Rv.d (.bl false))) M1 R X) X) h fun r M' q => asBN_of (by
      unfold isB at q ⊢
      split at q
      · rename_i k
        try simp only
        unfold ifB at q
        cases k with
        | false => exact q
        | true =>
          have q := SE.to hF (R' := fun r M2 => asBN r M2 (fun r M => R (.d (.bl r)) M) X) q fun r M' q => asBN_of (by unfold isB; exact q)
          unfold SE at q
          exact q
      · exact q.elim)
  unfold SE at h ⊢
  exact h
theorem e_or {a b : Tm} {R : Rv → Ar → Prop} (h : SE F a env M (fun r M1 => isB r fun r => ifB r (R (.d (.bl true)) M1) (SE F b env M1 (fun r M2 => isB r fun r => R (.d (.bl r)) M2) X)) X) : SE F (.or a b) env M R X := by
  have h := SE.to hF (R' := fun r M1 => asBN r M1 (fun r M1 => (match r with
    | true => retN (Rv.d (.bl true))
    | false => bndN (bndN (semN F b env) asBN) fun r => retN (Rv.d (.bl r))) M1 R X) X) h fun r M' q => asBN_of (by
      unfold isB at q ⊢
      split at q
      · rename_i k
        try simp only
        unfold ifB at q
        cases k with
        | true => exact q
        | false =>
          have q := SE.to hF (R' := fun r M2 => asBN r M2 (fun r M => R (.d (.bl r)) M) X) q fun r M' q => asBN_of (by unfold isB; exact q)
          unfold SE at q
          exact q
      · exact q.elim)
  unfold SE at h ⊢
  exact h
theorem e_ite {c a b : Tm} {R : Rv → Ar → Prop} (h : SE F c env M (fun r M1 => isB r fun r => ifB r (SE F a env M1 R X) (SE F b env M1 R X)) X) : SE F (.ite c a b) env M R X := by
  have h := SE.to hF (R' := fun r M1 => asBN r M1 (fun r M1 => (match r with
    | true => semN F a env
    | false => semN F b env) M1 R X) X) h fun r M' q => asBN_of (by
      unfold isB at q ⊢
      split at q
      · rename_i k
        try simp only
        unfold ifB SE at q
        cases k with
        | true => exact q
        | false => exact q
      · exact q.elim)
  unfold SE at h ⊢
  exact h
theorem SA.to {t : Es} {R R' : List D → Ar → Prop} (h : SA F t env M R X) (m : ∀ r M', R r M' → R' r M') : SA F t env M R' X := by
  unfold SA at h ⊢
  exact Clo.es (F := fun _ _ => stk) (C := 0) cloM hF t env _ _ _ _ _ m (fun _ _ _ z => z) h
theorem SR.to {t : Es} {R R' : List Rv → Ar → Prop} (h : SR F t env M R X) (m : ∀ r M', R r M' → R' r M') : SR F t env M R' X := by
  unfold SR at h ⊢
  exact Clo.rs (F := fun _ _ => stk) (C := 0) cloM hF t env _ _ _ _ _ m (fun _ _ _ z => z) h
theorem SI.to {t : Itm} {R R' : Itv → Ar → Prop} (h : SI F t env M R X) (m : ∀ r M', R r M' → R' r M') : SI F t env M R' X := SI.mono hF _ _ _ _ _ m (fun _ _ _ z => z) h
theorem iteN {β : Type} {P : Prop} [Decidable P] {a : β} {R : β → Ar → Prop} (h : P ∧ R a M) : (if P then retN a else stkN) M R X := by
  rw [if_pos h.1]; exact h.2
theorem e_tup {es : Es} {R : Rv → Ar → Prop} (h : SA F es env M (fun ds M1 => ds.length ≤ line ∧ R (.d (.tup ds)) M1) X) : SE F (.tup es) env M R X := by
  have h := SA.to hF (R' := fun ds M1 => (if ds.length ≤ line then retN (Rv.d (.tup ds)) else stkN) M1 R X) h fun r M' q => iteN hF q
  unfold SE SA at *
  exact h
theorem e_lst {es : Es} {R : Rv → Ar → Prop} (h : SA F es env M (fun ds M1 => ds.length ≤ line ∧ R (.l ds) M1) X) : SE F (.lst es) env M R X := by
  have h := SA.to hF (R' := fun ds M1 => (if ds.length ≤ line then retN (Rv.l ds) else stkN) M1 R X) h fun r M' q => iteN hF q
  unfold SE SA at *
  exact h
theorem e_idx {a b : Tm} {R : Rv → Ar → Prop} (h : SE F a env M (fun x M1 => SE F b env M1 (fun y M2 => optP (oIdx x y M2) (fun r => R r M2)) X) X) : SE F (.idx a b) env M R X := by
  simp only [oBin_eq, oCmp_eq, oIdx_eq, oSlc_eq, oBlt_eq, oIsin_eq, oIt_eq, oRng_eq, oZip_eq, oEnum_eq, oAsS_eq, oTgt_eq, oTgts_eq, oSets_eq, CA_eq, FA_eq, MT_eq, IR_eq] at *
  have h := SE.to hF (R' := fun x M1 => SE F b env M1 (fun y M2 => optN (index x y) M2 R X) X) h fun r M' q => SE.to hF q fun r M' q => optN_of q
  unfold SE at h ⊢
  exact h
theorem e_op1 {o : Op1} {a : Tm} {R : Rv → Ar → Prop} (h : SE F a env M (fun x M1 => optP (oOp1 o x M1) (fun r => R r M1)) X) : SE F (.op1 o a) env M R X := by
  simp only [oOp1_eq] at *
  have h := SE.to hF (R' := fun x M1 => optN (op1 o x) M1 R X) h fun r M' q => optN_of q
  unfold SE at h ⊢
  exact h
theorem e_op2 {o : Op2} {a b : Tm} {R : Rv → Ar → Prop} (h : SE F a env M (fun x M1 => SE F b env M1 (fun y M2 => optP (oOp2 o x y M2) (fun r => R r M2)) X) X) : SE F (.op2 o a b) env M R X := by
  simp only [oOp2_eq] at *
  have h := SE.to hF (R' := fun x M1 => SE F b env M1 (fun y M2 => optN (op2 o x y) M2 R X) X) h fun r M' q => SE.to hF q fun r M' q => optN_of q
  unfold SE at h ⊢
  exact h
theorem partI {r : Rv} {R : Option Int → Ar → Prop} (h : isI r fun l => R (some l) M) : partN false r M R X := by
  unfold isI at h
  unfold partN dN partM
  split at h
  · exact h
  · exact h.elim
/-- the parts of a slice -/
theorem e_slcA {a lo : Tm} {R : Rv → Ar → Prop} (hl : isAbs lo = false) (h : SE F a env M (fun x M1 => SE F lo env M1 (fun y M2 => isI y fun l => optP (oSlc x (some l) none M2) (fun r => R r M2)) X) X) : SE F (.slc a lo (.cst .non)) env M R X := by
  simp only [oBin_eq, oCmp_eq, oIdx_eq, oSlc_eq, oBlt_eq, oIsin_eq, oIt_eq, oRng_eq, oZip_eq, oEnum_eq, oAsS_eq, oTgt_eq, oTgts_eq, oSets_eq, CA_eq, FA_eq, MT_eq, IR_eq] at *
  have h := SE.to hF (R' := fun x M1 => SE F lo env M1 (fun y M2 => partN (isAbs lo) y M2 (fun l M2 => optN (slice x l none) M2 R X) X) X) h fun r M' q => SE.to hF q fun r2 M' q => by
    rw [hl]
    refine partI hF ?_
    unfold isI at q ⊢
    split at q
    · exact optN_of q
    · exact q.elim
  unfold SE at h ⊢
  exact h
theorem e_slcB {a hi : Tm} {R : Rv → Ar → Prop} (hl : isAbs hi = false) (h : SE F a env M (fun x M1 => SE F hi env M1 (fun y M2 => isI y fun l => optP (oSlc x none (some l) M2) (fun r => R r M2)) X) X) : SE F (.slc a (.cst .non) hi) env M R X := by
  simp only [oBin_eq, oCmp_eq, oIdx_eq, oSlc_eq, oBlt_eq, oIsin_eq, oIt_eq, oRng_eq, oZip_eq, oEnum_eq, oAsS_eq, oTgt_eq, oTgts_eq, oSets_eq, CA_eq, FA_eq, MT_eq, IR_eq] at *
  have h := SE.to hF (R' := fun x M1 => SE F hi env M1 (fun y M2 => partN (isAbs hi) y M2 (fun l M2 => optN (slice x none l) M2 R X) X) X) h fun r M' q => SE.to hF q fun r2 M' q => by
    rw [hl]
    refine partI hF ?_
    unfold isI at q ⊢
    split at q
    · exact optN_of q
    · exact q.elim
  unfold SE at h ⊢
  exact h
theorem e_slc {a lo hi : Tm} {R : Rv → Ar → Prop} (hl : isAbs lo = false) (hh : isAbs hi = false) (h : SE F a env M (fun x M1 => SE F lo env M1 (fun y M2 => isI y fun l => SE F hi env M2 (fun z M3 => isI z fun h => optP (oSlc x (some l) (some h) M3) (fun r => R r M3)) X) X) X) : SE F (.slc a lo hi) env M R X := by
  simp only [oBin_eq, oCmp_eq, oIdx_eq, oSlc_eq, oBlt_eq, oIsin_eq, oIt_eq, oRng_eq, oZip_eq, oEnum_eq, oAsS_eq, oTgt_eq, oTgts_eq, oSets_eq, CA_eq, FA_eq, MT_eq, IR_eq] at *
  have h := SE.to hF (R' := fun x M1 => SE F lo env M1 (fun y M2 => partN (isAbs lo) y M2 (fun l M2 => SE F hi env M2 (fun z M3 => partN (isAbs hi) z M3 (fun h M3 => optN (slice x l h) M3 R X) X) X) X) X) h fun r M' q => SE.to hF q fun r2 M' q => by
    rw [hl]
    refine partI hF ?_
    unfold isI at q ⊢
    split at q
    · refine SE.to hF q fun r3 M3 q => ?_
      rw [hh]
      refine partI hF ?_
      unfold isI at q ⊢
      split at q
      · exact optN_of q
      · exact q.elim
    · exact q.elim
  unfold SE at h ⊢
  exact h
theorem e_call {f : Nat} {es : Es} {R : Rv → Ar → Prop} (h : SA F es env M (fun ds M1 => F f ds M1 (fun r M2 => TQ M r M2 R) X) X) : SE F (.call f es) env M R X := by
  have h := SA.to hF (R' := fun ds M1 => F f ds M1 (fun r M2 => match trunc M (.ok r M2) with
    | .ok r' M'' => R r' M''
    | .exc c p M'' => X c p M''
    | .stuck => False) X) h fun ds M1 q => hF f ds _ _ _ _ _ (fun r M2 q => by
      unfold TQ at q
      cases ht : trunc M (.ok r M2) with
      | ok a M' => rw [ht] at q; exact q
      | exc c p M' => rw [ht] at q; exact q.elim
      | stuck => rw [ht] at q; exact q) (fun _ _ _ z => z) q
  unfold SE SA at *
  exact h
theorem e_blt {b : Blt} {es : Es} {R : Rv → Ar → Prop} (h : SR F es env M (fun xs M1 => optP (oBlt b xs M1) (fun r => R r M1)) X) : SE F (.blt b es) env M R X := by
  simp only [oBin_eq, oCmp_eq, oIdx_eq, oSlc_eq, oBlt_eq, oIsin_eq, oIt_eq, oRng_eq, oZip_eq, oEnum_eq, oAsS_eq, oTgt_eq, oTgts_eq, oSets_eq, CA_eq, FA_eq, MT_eq, IR_eq] at *
  have h := SR.to hF (R' := fun xs M1 => optN (builtin b xs) M1 R X) h fun r M' q => optN_of q
  unfold SE SR at *
  exact h
theorem e_isin {a : Tm} {ts : List Ty} {R : Rv → Ar → Prop} (h : SE F a env M (fun x M1 => optP (oIsin M1 x ts) (fun b => R (.d (.bl b)) M1)) X) : SE F (.isin a ts) env M R X := by
  simp only [oBin_eq, oCmp_eq, oIdx_eq, oSlc_eq, oBlt_eq, oIsin_eq, oIt_eq, oRng_eq, oZip_eq, oEnum_eq, oAsS_eq, oTgt_eq, oTgts_eq, oSets_eq, CA_eq, FA_eq, MT_eq, IR_eq] at *
  have h := SE.to hF (R' := fun x M1 => optN (fun M => isTys M x ts) M1 (fun b M => R (.d (.bl b)) M) X) h fun r M' q => optN_of q
  unfold SE at h ⊢
  exact h
theorem e_meth {m : Mth} {a : Tm} {es : Es} {R : Rv → Ar → Prop} (h : SE F a env M (fun r M1 => IR (valR r) M1 (fun _ M2 => SA F es env M2 (fun xs M3 => MT m (valR r) xs M3 R X) X) X) X) : SE F (.meth m a es) env M R X := by
  simp only [oBin_eq, oCmp_eq, oIdx_eq, oSlc_eq, oBlt_eq, oIsin_eq, oIt_eq, oRng_eq, oZip_eq, oEnum_eq, oAsS_eq, oTgt_eq, oTgts_eq, oSets_eq, CA_eq, FA_eq, MT_eq, IR_eq] at *
  unfold SE SA at *
  exact h
theorem e_dict0 {t : Bool} {R : Rv → Ar → Prop} (h : R (.m t [] []) M) : SE F (.dict0 t) env M R X := by unfold SE; exact h
/-! ### arguments -/
theorem a_nil {R : List D → Ar → Prop} (h : R [] M) : SA F .nil env M R X := by unfold SA; exact h
theorem a_cons {e : Tm} {es : Es} {R : List D → Ar → Prop} (h : SE F e env M (fun r M1 => SA F es env M1 (fun ds M2 => R (valR r :: ds) M2) X) X) : SA F (.cons e es) env M R X := by
  unfold SE SA at *
  exact h
theorem a_star {e : Tm} {es : Es} {R : List D → Ar → Prop} (h : SE F e env M (fun x M1 => optP (oAsS M1 x) fun xs => SA F es env M1 (fun ds M2 => R (xs ++ ds) M2) X) X) : SA F (.star e es) env M R X := by
  simp only [oBin_eq, oCmp_eq, oIdx_eq, oSlc_eq, oBlt_eq, oIsin_eq, oIt_eq, oRng_eq, oZip_eq, oEnum_eq, oAsS_eq, oTgt_eq, oTgts_eq, oSets_eq, CA_eq, FA_eq, MT_eq, IR_eq] at *
  have h := SE.to hF (R' := fun x M1 => optN (fun M => asS M x) M1 (fun xs M1 => SA F es env M1 (fun ds M2 => R (xs ++ ds) M2) X) X) h fun r M' q => optN_of q
  unfold SE SA at *
  exact h
theorem a_plc {e : Tm} {es : Es} {R : List D → Ar → Prop} (h : SE F e env M (fun r M1 => plc r M1 fun d M1 => SA F es env M1 (fun ds M2 => R (d :: ds) M2) X) X) : SA F (.plc e es) env M R X := by
  have h := SE.to hF (R' := fun r M1 => placeN r M1 (fun d M1 => SA F es env M1 (fun ds M2 => R (d :: ds) M2) X) X) h fun r M' q => placeN_of q
  unfold SE SA at *
  exact h
theorem r_nil {R : List Rv → Ar → Prop} (h : R [] M) : SR F .nil env M R X := by unfold SR; exact h
theorem r_cons {e : Tm} {es : Es} {R : List Rv → Ar → Prop} (h : SE F e env M (fun r M1 => SR F es env M1 (fun ds M2 => R (r :: ds) M2) X) X) : SR F (.cons e es) env M R X := by
  unfold SE SR at *
  exact h
/-! ### walks -/
theorem w_seq {a : Tm} {R : Itv → Ar → Prop} (h : SE F a env M (fun x M1 => optP (oIt x M1) (fun iv => R iv M1)) X) : SI F (.seq a) env M R X := by
  simp only [oBin_eq, oCmp_eq, oIdx_eq, oSlc_eq, oBlt_eq, oIsin_eq, oIt_eq, oRng_eq, oZip_eq, oEnum_eq, oAsS_eq, oTgt_eq, oTgts_eq, oSets_eq, CA_eq, FA_eq, MT_eq, IR_eq] at *
  have h := SE.to hF (R' := fun x M1 => optN (asIt x) M1 R X) h fun r M' q => optN_of q
  unfold SE SI at *
  exact h
theorem w_rng {es : Es} {R : Itv → Ar → Prop} (h : SR F es env M (fun xs M1 => optP (oRng xs M1) (fun iv => R iv M1)) X) : SI F (.rng es) env M R X := by
  simp only [oBin_eq, oCmp_eq, oIdx_eq, oSlc_eq, oBlt_eq, oIsin_eq, oIt_eq, oRng_eq, oZip_eq, oEnum_eq, oAsS_eq, oTgt_eq, oTgts_eq, oSets_eq, CA_eq, FA_eq, MT_eq, IR_eq] at *
  have h := SR.to hF (R' := fun x M1 => optN (rangeIt x) M1 R X) h fun r M' q => optN_of q
  unfold SR SI at *
  exact h
theorem w_zip {a b : Tm} {R : Itv → Ar → Prop} (h : SE F a env M (fun x M1 => SE F b env M1 (fun y M2 => optP (oZip x y M2) (fun iv => R iv M2)) X) X) : SI F (.zip a b) env M R X := by
  simp only [oBin_eq, oCmp_eq, oIdx_eq, oSlc_eq, oBlt_eq, oIsin_eq, oIt_eq, oRng_eq, oZip_eq, oEnum_eq, oAsS_eq, oTgt_eq, oTgts_eq, oSets_eq, CA_eq, FA_eq, MT_eq, IR_eq] at *
  have h := SE.to hF (R' := fun x M1 => SE F b env M1 (fun y M2 => optN (zipIt x y) M2 R X) X) h fun r M' q => SE.to hF q fun r M' q => optN_of q
  unfold SE SI at *
  exact h
theorem w_enum {a : Tm} {R : Itv → Ar → Prop} (h : SE F a env M (fun x M1 => optP (oEnum x M1) (fun iv => R iv M1)) X) : SI F (.enum a) env M R X := by
  simp only [oBin_eq, oCmp_eq, oIdx_eq, oSlc_eq, oBlt_eq, oIsin_eq, oIt_eq, oRng_eq, oZip_eq, oEnum_eq, oAsS_eq, oTgt_eq, oTgts_eq, oSets_eq, CA_eq, FA_eq, MT_eq, IR_eq] at *
  have h := SE.to hF (R' := fun x M1 => optN (enumIt x) M1 R X) h fun r M' q => optN_of q
  unfold SE SI at *
  exact h
/-! ### comprehensions -/
/-- one turn of a comprehension -/
@[irreducible] def TC (F : Nat → List D → PT Rv) (own : List Nat) (g : Tg) (c e : Tm) (env : Env) (d : D) : PT (Option D) := match tgt g d (wipe env own) with
  | some env' => noExcN (bndN (bndN (semN F c env') asBN) fun
    | true => bndN (bndN (semN F e env') settleN) fun y => retN (some y)
    | false => retN none)
  | none => stkN
theorem e_comp {own : List Nat} {it : Itm} {g : Tg} {c e : Tm} {R : Rv → Ar → Prop} (h : SI F it env M (fun iv M1 => CA (TC F own g c e env) iv M1 (fun ds M2 => R (.l ds) M2) X) X) : SE F (.comp own it g c e) env M R X := by
  simp only [oBin_eq, oCmp_eq, oIdx_eq, oSlc_eq, oBlt_eq, oIsin_eq, oIt_eq, oRng_eq, oZip_eq, oEnum_eq, oAsS_eq, oTgt_eq, oTgts_eq, oSets_eq, CA_eq, FA_eq, MT_eq, IR_eq] at *
  unfold SE SI at *
  unfold TC at h
  exact h
theorem t_turn {own : List Nat} {g : Tg} {c e : Tm} {d : D} {R : Option D → Ar → Prop} (h : optP (oTgt g d (wipe env own)) fun env' => SE F c env' M (fun r M1 => isB r fun b => ifB b (SE F e env' M1 (fun r M2 => R (some (valR r)) M2) fun _ _ _ => False) (R none M1)) fun _ _ _ => False) : TC F own g c e env d M R X := by
  simp only [oBin_eq, oCmp_eq, oIdx_eq, oSlc_eq, oBlt_eq, oIsin_eq, oIt_eq, oRng_eq, oZip_eq, oEnum_eq, oAsS_eq, oTgt_eq, oTgts_eq, oSets_eq, CA_eq, FA_eq, MT_eq, IR_eq] at *
  unfold TC
  obtain ⟨env', e1, h⟩ := o_get h
  rw [e1]
  have h := SE.to hF (R' := fun r M1 => asBN r M1 (fun b M1 => (match b with
    | true => bndN (bndN (semN F e env') settleN) fun y => retN (some y)
    | false => retN none) M1 R fun _ _ _ => False) fun _ _ _ => False) h fun r M' q => asBN_of (by
      unfold isB at q ⊢
      split at q
      · rename_i k
        try simp only
        unfold ifB SE at q
        cases k <;> exact q
      · exact q.elim)
  unfold SE at h
  exact h
/-! ### statements -/
theorem s_asg {g : Tg} {e : Tm} {R : Fl → Ar → Prop} (h : SE F e env M (fun r M1 => optP (oTgt g (valR r) env) fun env' => R (.nx env') M1) X) : SS F fuel (.asg g e) env M R X := by
  simp only [oBin_eq, oCmp_eq, oIdx_eq, oSlc_eq, oBlt_eq, oIsin_eq, oIt_eq, oRng_eq, oZip_eq, oEnum_eq, oAsS_eq, oTgt_eq, oTgts_eq, oSets_eq, CA_eq, FA_eq, MT_eq, IR_eq] at *
  have h := SE.to hF (R' := fun r M1 => (match tgt g (valR r) env with
    | some env' => retN (Fl.nx env')
    | none => stkN) M1 R X) h fun r M' q => by
      obtain ⟨env', e1, q⟩ := o_get q
      rw [e1]; exact q
  unfold SE at h
  unfold SS
  exact h
theorem s_asgP {g : Tg} {e : Tm} {R : Fl → Ar → Prop} (h : SE F e env M (fun r M1 => plc r M1 fun d M1 => optP (oTgt g d env) fun env' => R (.nx env') M1) X) : SS F fuel (.asgP g e) env M R X := by
  simp only [oBin_eq, oCmp_eq, oIdx_eq, oSlc_eq, oBlt_eq, oIsin_eq, oIt_eq, oRng_eq, oZip_eq, oEnum_eq, oAsS_eq, oTgt_eq, oTgts_eq, oSets_eq, CA_eq, FA_eq, MT_eq, IR_eq] at *
  have h := SE.to hF (R' := fun r M1 => placeN r M1 (fun d M1 => (match tgt g d env with
    | some env' => retN (Fl.nx env')
    | none => stkN) M1 R X) X) h fun r M' q => placeN_of (by
      have key : ∀ d M1, (optP (tgt g d env) fun env' => R (.nx env') M1) → (match tgt g d env with
        | some env' => retN (Fl.nx env')
        | none => stkN) M1 R X := fun d M1 q => by
        obtain ⟨env', e1, q⟩ := o_get q
        rw [e1]; exact q
      unfold plc at q ⊢
      cases r <;> exact key _ _ q)
  unfold SE at h
  unfold SS
  exact h
theorem s_par {js : List Nat} {es : Es} {R : Fl → Ar → Prop} (h : SA F es env M (fun ds M1 => optP (oSets js ds env) fun env' => R (.nx env') M1) X) : SS F fuel (.par js es) env M R X := by
  simp only [oBin_eq, oCmp_eq, oIdx_eq, oSlc_eq, oBlt_eq, oIsin_eq, oIt_eq, oRng_eq, oZip_eq, oEnum_eq, oAsS_eq, oTgt_eq, oTgts_eq, oSets_eq, CA_eq, FA_eq, MT_eq, IR_eq] at *
  have h := SA.to hF (R' := fun ds M1 => (match sets js ds env with
    | some env' => retN (Fl.nx env')
    | none => stkN) M1 R X) h fun r M' q => by
      obtain ⟨env', e1, q⟩ := o_get q
      rw [e1]; exact q
  unfold SA at h
  unfold SS
  exact h
/-- x[i] = d -/
@[irreducible] def PU (x y : Rv) (d : D) (M : Ar) (R : Ar → Prop) : Prop := match putAt x y d M with
  | .ok _ M' => R M'
  | _ => False
theorem s_put {a i e : Tm} {R : Fl → Ar → Prop} (h : SE F e env M (fun r M1 => SE F a env M1 (fun x M2 => SE F i env M2 (fun y M3 => PU x y (valR r) M3 fun M4 => R (.nx env) M4) X) X) X) : SS F fuel (.put a i e) env M R X := by
  have h := SE.to hF (R' := fun r M1 => SE F a env M1 (fun x M2 => SE F i env M2 (fun y M3 => putAtN x y (valR r) M3 (fun _ M4 => R (.nx env) M4) X) X) X) h fun r M1 q => SE.to hF q fun x M2 q => SE.to hF q fun y M3 q => by
    unfold PU at q
    unfold putAtN dN
    split at q
    · rename_i e1; rw [e1]; exact q
    · exact q.elim
  unfold SE at h
  unfold SS
  exact h
theorem s_expr {e : Tm} {R : Fl → Ar → Prop} (h : SE F e env M (fun _ M1 => R (.nx env) M1) X) : SS F fuel (.expr e) env M R X := by
  unfold SE at h
  unfold SS
  exact h
theorem s_ret {e : Tm} {R : Fl → Ar → Prop} (h : SE F e env M (fun r M1 => R (.rt r) M1) X) : SS F fuel (.ret e) env M R X := by
  unfold SE at h
  unfold SS
  exact h
theorem s_retN {R : Fl → Ar → Prop} (h : R (.rt (.d .non)) M) : SS F fuel .retN env M R X := by unfold SS; exact h
theorem s_ite {c : Tm} {a b : Stms} {R : Fl → Ar → Prop} (h : SE F c env M (fun r M1 => isB r fun r => ifB r (SSs F fuel a env M1 R X) (SSs F fuel b env M1 R X)) X) : SS F fuel (.ite c a b) env M R X := by
  have h := SE.to hF (R' := fun r M1 => asBN r M1 (fun r M1 => (match r with
    | true => execsN F fuel a env
    | false => execsN F fuel b env) M1 R X) X) h fun r M' q => asBN_of (by
      unfold isB at q ⊢
      split at q
      · rename_i k
        try simp only
        unfold ifB SSs at q
        cases k with
        | true => exact q
        | false => exact q
      · exact q.elim)
  unfold SE at h
  unfold SS
  exact h
@[irreducible] def BF (F : Nat → List D → PT Rv) (fuel : Nat) (g : Tg) (s : Stms) (d : D) (e : Env) : PT Fl := match tgt g d e with
  | some e' => execsN F fuel s e'
  | none => stkN
theorem s_for {it : Itm} {g : Tg} {s : Stms} {R : Fl → Ar → Prop} (h : SI F it env M (fun iv M1 => FA (BF F fuel g s) iv env M1 R X) X) : SS F fuel (.for_ it g s) env M R X := by
  simp only [oBin_eq, oCmp_eq, oIdx_eq, oSlc_eq, oBlt_eq, oIsin_eq, oIt_eq, oRng_eq, oZip_eq, oEnum_eq, oAsS_eq, oTgt_eq, oTgts_eq, oSets_eq, CA_eq, FA_eq, MT_eq, IR_eq] at *
  unfold SI at h
  unfold SS
  unfold BF at h
  exact h
theorem s_pass {R : Fl → Ar → Prop} (h : R (.nx env) M) : SS F fuel .pass env M R X := by unfold SS; exact h
theorem s_brk {R : Fl → Ar → Prop} (h : R (.bk env) M) : SS F fuel .brk env M R X := by unfold SS; exact h
theorem s_cont {R : Fl → Ar → Prop} (h : R (.ct env) M) : SS F fuel .cont env M R X := by unfold SS; exact h
theorem ss_nil {R : Fl → Ar → Prop} (h : R (.nx env) M) : SSs F fuel .nil env M R X := by unfold SSs; exact h
theorem SS.to {t : Stm} {R R' : Fl → Ar → Prop} (h : SS F fuel t env M R X) (m : ∀ r M', R r M' → R' r M') : SS F fuel t env M R' X := SS.mono hF _ _ _ _ _ m (fun _ _ _ z => z) h
theorem SSs.to {t : Stms} {R R' : Fl → Ar → Prop} (h : SSs F fuel t env M R X) (m : ∀ r M', R r M' → R' r M') : SSs F fuel t env M R' X := SSs.mono hF _ _ _ _ _ m (fun _ _ _ z => z) h
theorem ss_cons {s : Stm} {r : Stms} {R : Fl → Ar → Prop} (h : SS F fuel s env M (fun fl M1 => nxt fl M1 (fun e => SSs F fuel r e M1 R X) R) X) : SSs F fuel (.cons s r) env M R X := by
  have h := SS.to hF (R' := fun fl M1 => (match fl with
    | .nx e => execsN F fuel r e
    | f => retN f) M1 R X) h fun fl M1 q => by
      unfold nxt SSs at q
      cases fl <;> exact q
  unfold SS at h
  unfold SSs
  exact h
/-- a block by its last wish -/
theorem ss_then {s : Stms} {R R' : Fl → Ar → Prop} (h : SSs F fuel s env M R' X) (m : ∀ fl M', R' fl M' → R fl M') : SSs F fuel s env M R X := SSs.to hF h m
end
/-! ### calls -/
section
variable {sp : Spec} {fuel : Nat} {T : Nat → Option Df} {k f : Nat} {args : List D} {M : Ar} {R : Rv → Ar → Prop} {X : Nat → D → Ar → Prop}
theorem ph_body {d : Df} (hm : MonoS sp) (hT : T f = some d) (hs : sp f = none) (ha : args.length = d.ar) (h : SSs (PH sp fuel T k) fuel d.body (args.map some ++ List.replicate (d.sl - args.length) none) M (fun fl M1 => finR fl fun r => R r M1) X) : PH sp fuel T (k + 1) f args M R X := by
  rw [PH_eq] at h ⊢
  have h := SSs.to (phi_mono hm k) (R' := fun fl M1 => retFN fl M1 R X) h fun fl M1 q => by
    unfold finR at q
    cases fl with
    | nx e => exact q
    | rt r => exact q
    | bk e => exact q.elim
    | ct e => exact q.elim
  show (match sp f with
    | some g => g args (match T f with
      | some d => runBodyN (PhiN sp fuel T k) fuel d args
      | none => stkN)
    | none => (match T f with
      | some d => runBodyN (PhiN sp fuel T k) fuel d args
      | none => stkN)) M R X
  rw [hs, hT]
  show runBodyN (PhiN sp fuel T k) fuel d args M R X
  unfold runBodyN
  rw [if_pos ha]
  unfold SSs at h
  exact h
/-- a call that is reckoned outright -/
theorem ph_run {dfs : List Df} {r : Rv} {M' : Ar} (hs : ∀ f, sp f = none) (e : Phi fuel (fun i => dfs[i]?) k f args M = .ok r M') (h : R r M') : PH sp fuel (fun i => dfs[i]?) k f args M R X := by
  rw [PH_eq]
  refine Clo.phi cloD (sp := sp) (fun k f g args body h => by rw [hs f] at h; cases h) k f args M R X ?_
  rw [e]; exact h
end
end Q
end

section
set_option Elab.async false
set_option linter.all false
set_option maxRecDepth 100000
/-! Loops. -/
namespace Q
section
variable {M : Ar} {F : Nat → List D → PT Rv} {fuel : Nat} {env : Env} {X : Nat → D → Ar → Prop}
/-- behind one turn of a loop -/
@[irreducible] def fk (fl : Fl) (M : Ar) (k : Env → Prop) (R : Fl → Ar → Prop) : Prop := match fl with
  | .nx e => k e
  | .ct e => k e
  | .bk e => R (.nx e) M
  | .rt r => R (.rt r) M
theorem fk_nx {e : Env} {M : Ar} {k : Env → Prop} {R : Fl → Ar → Prop} (h : k e) : fk (.nx e) M k R := by unfold fk; exact h
theorem fk_ct {e : Env} {M : Ar} {k : Env → Prop} {R : Fl → Ar → Prop} (h : k e) : fk (.ct e) M k R := by unfold fk; exact h
theorem fk_bk {e : Env} {M : Ar} {k : Env → Prop} {R : Fl → Ar → Prop} (h : R (.nx e) M) : fk (.bk e) M k R := by unfold fk; exact h
theorem fk_rt {r : Rv} {M : Ar} {k : Env → Prop} {R : Fl → Ar → Prop} (h : R (.rt r) M) : fk (.rt r) M k R := by unfold fk; exact h
theorem BF_mono (hF : MonoF F) {g : Tg} {s : Stms} {d : D} : MonoN (BF F fuel g s d env) := by
  unfold BF
  cases tgt g d env with
  | none => exact fun M R R' X X' h g q => q
  | some e' => exact Clo.sts (F := fun _ _ => stk) (C := 0) cloM hF fuel s e'
theorem bndM {α β : Type} {x : PT α} {f : α → PT β} (h : MonoN x) (g : ∀ a, MonoN (f a)) : MonoN (bndN x f) := cloM.bnd (c := 0) (c' := 0) (x := stk) (f := fun _ => stk) h g
theorem retM {α : Type} {a : α} : MonoN (retN a) := fun M R R' X X' h g q => h _ _ q
theorem TC_mono (hF : MonoF F) {own : List Nat} {g : Tg} {c e : Tm} {d : D} : MonoN (TC F own g c e env d) := by
  unfold TC
  cases tgt g d (wipe env own) with
  | none => exact fun M R R' X X' h g q => q
  | some e' =>
    refine cloM.noExc (c := 0) (x := stk) (bndM (bndM (Clo.tm (F := fun _ _ => stk) (C := 0) cloM hF c e') fun r => cloM.det (wr_asB r)) fun b => ?_)
    cases b with
    | true => exact bndM (bndM (Clo.tm (F := fun _ _ => stk) (C := 0) cloM hF e e') fun r => cloM.det (wr_settle r)) fun y => retM
    | false => exact retM
theorem b_turn (hF : MonoF F) {g : Tg} {s : Stms} {d : D} {R : Fl → Ar → Prop} (h : optP (oTgt g d env) fun e' => SSs F fuel s e' M R X) : BF F fuel g s d env M R X := by
  simp only [oBin_eq, oCmp_eq, oIdx_eq, oSlc_eq, oBlt_eq, oIsin_eq, oIt_eq, oRng_eq, oZip_eq, oEnum_eq, oAsS_eq, oTgt_eq, oTgts_eq, oSets_eq, CA_eq, FA_eq, MT_eq, IR_eq] at *
  obtain ⟨e', e1, h⟩ := o_get h
  unfold BF
  rw [e1]
  unfold SSs at h
  exact h
theorem for_go {f : D → Env → PT Fl} (hf : ∀ d e, MonoN (f d e)) {R : Fl → Ar → Prop} {all : List D} (Inv : Nat → Env → Ar → Prop)
    (step : ∀ i d e M, all[i]? = some d → Inv i e M → f d e M (fun fl M' => fk fl M' (fun e => Inv (i + 1) e M') R) X) (fin : ∀ e M, Inv all.length e M → R (.nx e) M) :
    ∀ (ds : List D) (i : Nat) (env : Env) (M : Ar), all.drop i = ds → i ≤ all.length → Inv i env M → forLN f ds env M R X
  | [], i, env, M, hd, hi, h => by
    have : all.length ≤ i := by
      have := congrArg List.length hd
      simp at this; omega
    have : i = all.length := Nat.le_antisymm hi this
    subst this
    exact fin _ _ h
  | x :: xs, i, env, M, hd, hi, h => by
    have hx : all[i]? = some x := by
      have := congrArg (·[0]?) hd
      simpa using this
    have hr : all.drop (i + 1) = xs := by
      have := congrArg List.tail hd
      simpa using this
    have hl : i + 1 ≤ all.length := (List.getElem?_eq_some_iff.mp hx).1
    refine hf x env M _ _ X X (fun fl M' q => ?_) (fun _ _ _ z => z) (step i x env M hx h)
    unfold fk at q
    cases fl with
    | nx e => exact for_go hf Inv step fin xs (i + 1) e M' hr hl q
    | ct e => exact for_go hf Inv step fin xs (i + 1) e M' hr hl q
    | bk e => exact q
    | rt r => exact q
/-- for d in ds (a list or a tuple that stays): an invariant of turn, slots, arena -/
theorem for_st (hF : MonoF F) {g : Tg} {s : Stms} {R : Fl → Ar → Prop} {all : List D} (Inv : Nat → Env → Ar → Prop) (hl : all.length ≤ line) (h0 : Inv 0 env M)
    (step : ∀ i d e M, all[i]? = some d → Inv i e M → optP (oTgt g d e) fun e' => SSs F fuel s e' M (fun fl M' => fk fl M' (fun e => Inv (i + 1) e M') R) X) (fin : ∀ e M, Inv all.length e M → R (.nx e) M) : FA (BF F fuel g s) (.st all) env M R X := by
  simp only [oBin_eq, oCmp_eq, oIdx_eq, oSlc_eq, oBlt_eq, oIsin_eq, oIt_eq, oRng_eq, oZip_eq, oEnum_eq, oAsS_eq, oTgt_eq, oTgts_eq, oSets_eq, CA_eq, FA_eq, MT_eq, IR_eq] at *
  show (if all.length ≤ line then forLN (BF F fuel g s) all env else stkN) M R X
  rw [if_pos hl]
  exact for_go (fun d e => BF_mono hF) Inv (fun i d e M hd hi => b_turn hF (by rw [oTgt_eq]; exact step i d e M hd hi)) fin all 0 env M rfl (Nat.zero_le _) h0
theorem comp_go {f : D → PT (Option D)} (hf : ∀ d, MonoN (f d)) {R : List D → Ar → Prop} {all : List D} (Inv : Nat → List D → Ar → Prop) (hl : all.length ≤ line)
    (step : ∀ i d acc M, all[i]? = some d → acc.length ≤ i → Inv i acc M → f d M (fun o M' => match o with
      | some y => Inv (i + 1) (acc ++ [y]) M'
      | none => Inv (i + 1) acc M') X) (fin : ∀ acc M, Inv all.length acc M → R acc M) :
    ∀ (ds : List D) (i : Nat) (acc : List D) (M : Ar), all.drop i = ds → i ≤ all.length → acc.length ≤ i → Inv i acc.reverse M → compLN f ds acc M R X
  | [], i, acc, M, hd, hi, ha, h => by
    have : all.length ≤ i := by
      have := congrArg List.length hd
      simp at this; omega
    have : i = all.length := Nat.le_antisymm hi this
    subst this
    exact fin _ _ h
  | x :: xs, i, acc, M, hd, hi, ha, h => by
    have hx : all[i]? = some x := by
      have := congrArg (·[0]?) hd
      simpa using this
    have hr : all.drop (i + 1) = xs := by
      have := congrArg List.tail hd
      simpa using this
    have hl' : i + 1 ≤ all.length := (List.getElem?_eq_some_iff.mp hx).1
    refine hf x M _ _ X X (fun o M' q => ?_) (fun _ _ _ z => z) (step i x acc.reverse M hx (by rw [List.length_reverse]; exact ha) h)
    cases o with
    | none => exact comp_go hf Inv hl step fin xs (i + 1) acc M' hr hl' (by omega) q
    | some y =>
      show (if acc.length < line then compLN f xs (y :: acc) else stkN) M' R X
      rw [if_pos (by omega)]
      exact comp_go hf Inv hl step fin xs (i + 1) (y :: acc) M' hr hl' (by simp; omega) (by simpa using q)
/-- [e for g in ds if c]: an invariant of turn, what is made, arena -/
theorem comp_st (hF : MonoF F) {own : List Nat} {g : Tg} {c e : Tm} {R : List D → Ar → Prop} {all : List D} (Inv : Nat → List D → Ar → Prop) (hl : all.length ≤ line) (h0 : Inv 0 [] M)
    (step : ∀ i d acc M, all[i]? = some d → acc.length ≤ i → Inv i acc M → TC F own g c e env d M (fun o M' => match o with
      | some y => Inv (i + 1) (acc ++ [y]) M'
      | none => Inv (i + 1) acc M') X) (fin : ∀ acc M, Inv all.length acc M → R acc M) : CA (TC F own g c e env) (.st all) M R X := by
  simp only [oBin_eq, oCmp_eq, oIdx_eq, oSlc_eq, oBlt_eq, oIsin_eq, oIt_eq, oRng_eq, oZip_eq, oEnum_eq, oAsS_eq, oTgt_eq, oTgts_eq, oSets_eq, CA_eq, FA_eq, MT_eq, IR_eq] at *
  show (if all.length ≤ line then compLN (TC F own g c e env) all [] else stkN) M R X
  rw [if_pos hl]
  exact comp_go (fun d => TC_mono hF) Inv hl step fin all 0 [] M rfl (Nat.zero_le _) (Nat.zero_le _) h0
/-- a comprehension that changes nothing: each item gives one, or none -/
theorem comp_fm (hF : MonoF F) {own : List Nat} {g : Tg} {c e : Tm} {R : List D → Ar → Prop} {all : List D} (f : D → Option D) (hl : all.length ≤ line)
    (step : ∀ d, d ∈ all → ∀ R : Option D → Ar → Prop, R (f d) M → TC F own g c e env d M R X) (fin : R (all.filterMap f) M) : CA (TC F own g c e env) (.st all) M R X := by
  refine comp_st hF (fun i acc M' => acc = (all.take i).filterMap f ∧ M' = M) hl ⟨by simp, rfl⟩ (fun i d acc M' hd _ h => ?_) (fun acc M' h => ?_)
  · obtain ⟨rfl, rfl⟩ := h
    refine step d (List.mem_of_getElem? hd) _ ?_
    have hi := (List.getElem?_eq_some_iff.mp hd).1
    have e1 := (List.getElem?_eq_some_iff.mp hd).2
    rw [List.take_succ_eq_append_getElem hi, e1, List.filterMap_append]
    cases hf : f d with
    | none => exact ⟨by simp [hf], rfl⟩
    | some y => exact ⟨by simp [hf], rfl⟩
  · obtain ⟨rfl, rfl⟩ := h
    rw [List.take_length]; exact fin
theorem comp_map (hF : MonoF F) {own : List Nat} {g : Tg} {c e : Tm} {R : List D → Ar → Prop} {all : List D} (f : D → D) (hl : all.length ≤ line)
    (step : ∀ d, d ∈ all → ∀ R : Option D → Ar → Prop, R (some (f d)) M → TC F own g c e env d M R X) (fin : R (all.map f) M) : CA (TC F own g c e env) (.st all) M R X := by
  refine comp_fm hF (fun d => some (f d)) hl step ?_
  rw [List.filterMap_eq_map']; exact fin
/-- the same with a fact of each item made -/
theorem comp_all (hF : MonoF F) {own : List Nat} {g : Tg} {c e : Tm} {R : List D → Ar → Prop} {all : List D} (P : Nat → D → Prop) (hl : all.length ≤ line)
    (step : ∀ i d, all[i]? = some d → ∀ R : Option D → Ar → Prop, (∀ y, P i y → R (some y) M) → TC F own g c e env d M R X) (fin : ∀ ys : List D, ys.length = all.length → (∀ i y, ys[i]? = some y → P i y) → R ys M) : CA (TC F own g c e env) (.st all) M R X := by
  refine comp_st hF (fun i acc M' => acc.length = i ∧ (∀ j y, acc[j]? = some y → P j y) ∧ M' = M) hl ⟨rfl, by simp, rfl⟩ (fun i d acc M' hd _ h => ?_) (fun acc M' h => ?_)
  · obtain ⟨ha, hp, rfl⟩ := h
    refine step i d hd _ fun y hy => ?_
    refine ⟨by simp [ha], fun j z hj => ?_, rfl⟩
    by_cases hji : j < acc.length
    · rw [List.getElem?_append_left hji] at hj
      exact hp j z hj
    · have : j = acc.length := by
        have := (List.getElem?_eq_some_iff.mp hj).1
        rw [List.length_append] at this
        simp at this
        omega
      subst this
      rw [List.getElem?_append_right (Nat.le_refl _)] at hj
      simp at hj
      subst hj
      rw [ha]; exact hy
  · obtain ⟨h1, h2, rfl⟩ := h
    exact fin acc h1 h2
/-! the same over what stands in the arena -/
def Itv.dyn : Itv → Bool
  | .st _ => false
  | _ => true
theorem compAllN_dyn {f : D → PT (Option D)} {iv : Itv} (h : iv.dyn = true) : compAllN f iv = bndN (optN fun M => itLen M iv) fun k => if k ≤ line then compDN f iv 0 k [] else stkN := by
  cases iv <;> first | rfl | cases h
theorem forAllN_dyn {f : D → Env → PT Fl} {iv : Itv} {env : Env} (h : iv.dyn = true) : forAllN f iv env = bndN (optN fun M => itLen M iv) fun k => if k ≤ line then forDN f iv 0 k env else stkN := by
  cases iv <;> first | rfl | cases h
/-- what a walk hands out, as the arena stands -/
def Walks (M : Ar) (iv : Itv) (all : List D) : Prop := itLen M iv = some all.length ∧ ∀ i d, all[i]? = some d → itNth M i iv = some d
theorem optN_eq {α : Type} {f : Ar → Option α} {a : α} {R : α → Ar → Prop} (e : f M = some a) (h : R a M) : optN f M R X := optN_of (o_eq e h)
theorem compD_go {f : D → PT (Option D)} (hf : ∀ d, MonoN (f d)) {iv : Itv} {R : List D → Ar → Prop} {all : List D} (Inv : Nat → List D → Ar → Prop) (hl : all.length ≤ line) (hw : ∀ i acc M, Inv i acc M → Walks M iv all)
    (step : ∀ i d acc M, all[i]? = some d → acc.length ≤ i → Inv i acc M → f d M (fun o M' => match o with
      | some y => Inv (i + 1) (acc ++ [y]) M'
      | none => Inv (i + 1) acc M') X) (fin : ∀ acc M, Inv all.length acc M → R acc M) :
    ∀ (k i : Nat) (acc : List D) (M : Ar), i + k = all.length → acc.length ≤ i → Inv i acc.reverse M → compDN f iv i k acc M R X
  | 0, i, acc, M, hi, ha, h => by
    have hi : i = all.length := by omega
    subst hi
    refine optN_eq (f := fun M => itLen M iv) (hw _ _ _ h).1 ?_
    show (if all.length ≤ all.length then retN acc.reverse else stkN) M R X
    rw [if_pos (Nat.le_refl _)]
    exact fin _ _ h
  | k + 1, i, acc, M, hi, ha, h => by
    have hx : all[i]? = some all[i] := List.getElem?_eq_getElem (by omega)
    refine optN_eq (f := fun M => itNth M i iv) ((hw _ _ _ h).2 i _ hx) ?_
    refine hf all[i] M _ _ X X (fun o M' q => ?_) (fun _ _ _ z => z) (step i all[i] acc.reverse M hx (by rw [List.length_reverse]; exact ha) h)
    cases o with
    | none => exact compD_go hf Inv hl hw step fin k (i + 1) acc M' (by omega) (by omega) q
    | some y =>
      show (if acc.length < line then compDN f iv (i + 1) k (y :: acc) else stkN) M' R X
      rw [if_pos (by omega)]
      exact compD_go hf Inv hl hw step fin k (i + 1) (y :: acc) M' (by omega) (by simp; omega) (by simpa using q)
theorem comp_dy (hF : MonoF F) {own : List Nat} {g : Tg} {c e : Tm} {iv : Itv} {R : List D → Ar → Prop} {all : List D} (Inv : Nat → List D → Ar → Prop) (hd : iv.dyn = true) (hl : all.length ≤ line) (hw : ∀ i acc M, Inv i acc M → Walks M iv all) (h0 : Inv 0 [] M)
    (step : ∀ i d acc M, all[i]? = some d → acc.length ≤ i → Inv i acc M → TC F own g c e env d M (fun o M' => match o with
      | some y => Inv (i + 1) (acc ++ [y]) M'
      | none => Inv (i + 1) acc M') X) (fin : ∀ acc M, Inv all.length acc M → R acc M) : CA (TC F own g c e env) iv M R X := by
  simp only [oBin_eq, oCmp_eq, oIdx_eq, oSlc_eq, oBlt_eq, oIsin_eq, oIt_eq, oRng_eq, oZip_eq, oEnum_eq, oAsS_eq, oTgt_eq, oTgts_eq, oSets_eq, CA_eq, FA_eq, MT_eq, IR_eq] at *
  rw [compAllN_dyn hd]
  refine optN_eq (f := fun M => itLen M iv) (hw _ _ _ h0).1 ?_
  show (if all.length ≤ line then compDN (TC F own g c e env) iv 0 all.length [] else stkN) M R X
  rw [if_pos hl]
  exact compD_go (fun d => TC_mono hF) Inv hl hw step fin all.length 0 [] M (by omega) (Nat.zero_le _) h0
theorem comp_mapD (hF : MonoF F) {own : List Nat} {g : Tg} {c e : Tm} {iv : Itv} {R : List D → Ar → Prop} {all : List D} (f : D → D) (hd : iv.dyn = true) (hl : all.length ≤ line) (hw : Walks M iv all)
    (step : ∀ d, d ∈ all → ∀ R : Option D → Ar → Prop, R (some (f d)) M → TC F own g c e env d M R X) (fin : R (all.map f) M) : CA (TC F own g c e env) iv M R X := by
  refine comp_dy hF (fun i acc M' => acc = (all.take i).map f ∧ M' = M) hd hl (fun i acc M' h => h.2 ▸ hw) ⟨by simp, rfl⟩ (fun i d acc M' hd _ h => ?_) (fun acc M' h => ?_)
  · obtain ⟨rfl, rfl⟩ := h
    refine step d (List.mem_of_getElem? hd) _ ?_
    have hi := (List.getElem?_eq_some_iff.mp hd).1
    have e1 := (List.getElem?_eq_some_iff.mp hd).2
    rw [List.take_succ_eq_append_getElem hi, e1, List.map_append]
    exact ⟨rfl, rfl⟩
  · obtain ⟨rfl, rfl⟩ := h
    rw [List.take_length]; exact fin
theorem forD_go {f : D → Env → PT Fl} (hf : ∀ d e, MonoN (f d e)) {iv : Itv} {R : Fl → Ar → Prop} {all : List D} (Inv : Nat → Env → Ar → Prop) (hw : ∀ i e M, Inv i e M → Walks M iv all)
    (step : ∀ i d e M, all[i]? = some d → Inv i e M → f d e M (fun fl M' => fk fl M' (fun e => Inv (i + 1) e M') R) X) (fin : ∀ e M, Inv all.length e M → R (.nx e) M) :
    ∀ (k i : Nat) (env : Env) (M : Ar), i + k = all.length → Inv i env M → forDN f iv i k env M R X
  | 0, i, env, M, hi, h => by
    have hi : i = all.length := by omega
    subst hi
    refine optN_eq (f := fun M => itLen M iv) (hw _ _ _ h).1 ?_
    show (if all.length ≤ all.length then retN (Fl.nx env) else stkN) M R X
    rw [if_pos (Nat.le_refl _)]
    exact fin _ _ h
  | k + 1, i, env, M, hi, h => by
    have hx : all[i]? = some all[i] := List.getElem?_eq_getElem (by omega)
    refine optN_eq (f := fun M => itNth M i iv) ((hw _ _ _ h).2 i _ hx) ?_
    refine hf all[i] env M _ _ X X (fun fl M' q => ?_) (fun _ _ _ z => z) (step i all[i] env M hx h)
    unfold fk at q
    cases fl with
    | nx e => exact forD_go hf Inv hw step fin k (i + 1) e M' (by omega) q
    | ct e => exact forD_go hf Inv hw step fin k (i + 1) e M' (by omega) q
    | bk e => exact q
    | rt r => exact q
theorem for_dy (hF : MonoF F) {g : Tg} {s : Stms} {iv : Itv} {R : Fl → Ar → Prop} {all : List D} (Inv : Nat → Env → Ar → Prop) (hd : iv.dyn = true) (hl : all.length ≤ line) (hw : ∀ i e M, Inv i e M → Walks M iv all) (h0 : Inv 0 env M)
    (step : ∀ i d e M, all[i]? = some d → Inv i e M → optP (oTgt g d e) fun e' => SSs F fuel s e' M (fun fl M' => fk fl M' (fun e => Inv (i + 1) e M') R) X) (fin : ∀ e M, Inv all.length e M → R (.nx e) M) : FA (BF F fuel g s) iv env M R X := by
  simp only [oBin_eq, oCmp_eq, oIdx_eq, oSlc_eq, oBlt_eq, oIsin_eq, oIt_eq, oRng_eq, oZip_eq, oEnum_eq, oAsS_eq, oTgt_eq, oTgts_eq, oSets_eq, CA_eq, FA_eq, MT_eq, IR_eq] at *
  rw [forAllN_dyn hd]
  refine optN_eq (f := fun M => itLen M iv) (hw _ _ _ h0).1 ?_
  show (if all.length ≤ line then forDN (BF F fuel g s) iv 0 all.length env else stkN) M R X
  rw [if_pos hl]
  exact forD_go (fun d e => BF_mono hF) Inv hw (fun i d e M hd hi => b_turn hF (by rw [oTgt_eq]; exact step i d e M hd hi)) fin all.length 0 env M (by omega) h0
theorem while_go (hF : MonoF F) {c : Tm} {s : Stms} {R : Fl → Ar → Prop} (Inv : Nat → Env → Ar → Prop)
    (step : ∀ n e M, Inv n e M → SE F c e M (fun r M1 => isB r fun b => ifB b (0 < n ∧ SSs F fuel s e M1 (fun fl M2 => fk fl M2 (fun e => ∃ m, m < n ∧ Inv m e M2) R) X) (R (.nx e) M1)) X) :
    ∀ (m n : Nat) (env : Env) (M : Ar), n < m → Inv n env M → whileN (fun e => semBN F c e) (fun e => execsN F fuel s e) m env M R X
  | 0, n, env, M, hm, h => absurd hm (Nat.not_lt_zero _)
  | m + 1, n, env, M, hm, h => by
    have q := step n env M h
    have q := SE.to hF (R' := fun r M1 => asBN r M1 (fun b M1 => (match b with
      | false => retN (Fl.nx env)
      | true => bndN (execsN F fuel s env) fun fl => (match fl with
        | .nx e => whileN (fun e => semBN F c e) (fun e => execsN F fuel s e) m e
        | .ct e => whileN (fun e => semBN F c e) (fun e => execsN F fuel s e) m e
        | .bk e => retN (Fl.nx e)
        | .rt r => retN (Fl.rt r))) M1 R X) X) q fun r M1 q => asBN_of (by
          unfold isB at q ⊢
          split at q
          · rename_i b
            try simp only
            unfold ifB at q
            cases b with
            | false => exact q
            | true =>
              obtain ⟨hn, q⟩ := q
              have q := SSs.to hF (R' := fun fl M2 => (match fl with
                | .nx e => whileN (fun e => semBN F c e) (fun e => execsN F fuel s e) m e
                | .ct e => whileN (fun e => semBN F c e) (fun e => execsN F fuel s e) m e
                | .bk e => retN (Fl.nx e)
                | .rt r => retN (Fl.rt r)) M2 R X) q fun fl M2 q => by
                  unfold fk at q
                  cases fl with
                  | nx e => obtain ⟨j, hj, q⟩ := q; exact while_go hF Inv step m j e M2 (by omega) q
                  | ct e => obtain ⟨j, hj, q⟩ := q; exact while_go hF Inv step m j e M2 (by omega) q
                  | bk e => exact q
                  | rt r => exact q
              unfold SSs at q
              exact q
          · exact q.elim)
    unfold SE at q
    exact q
/-- while c: a measure that falls, below the fuel -/
theorem s_while (hF : MonoF F) {c : Tm} {s : Stms} {R : Fl → Ar → Prop} (Inv : Nat → Env → Ar → Prop) (n : Nat) (hn : n < fuel) (h0 : Inv n env M)
    (step : ∀ n e M, Inv n e M → SE F c e M (fun r M1 => isB r fun b => ifB b (0 < n ∧ SSs F fuel s e M1 (fun fl M2 => fk fl M2 (fun e => ∃ m, m < n ∧ Inv m e M2) R) X) (R (.nx e) M1)) X) : SS F fuel (.while_ c s) env M R X := by
  unfold SS
  exact while_go hF Inv step fuel n env M hn h0
end
end Q
end

section
set_option Elab.async false
set_option linter.all false
set_option maxRecDepth 100000
/-! Leaves, what is behind a call, draws. -/
namespace Q
theorem Bn.mono {m n : Nat} {i : Int} (h : Bn m i) (l : m ≤ n) : Bn n i := Nat.le_trans h (Nat.pow_le_pow_right (by decide) l)
theorem Bn.add {m : Nat} {i j : Int} (h : Bn m i) (g : Bn m j) : Bn (m + 1) (i + j) := by
  unfold Bn at *
  have := Int.natAbs_add_le i j
  have e : (2 : Nat) ^ (m + 1) = 2 ^ m + 2 ^ m := by rw [Nat.pow_succ]; omega
  omega
theorem Bn.neg {m : Nat} {i : Int} (h : Bn m i) : Bn m (-i) := by
  unfold Bn at *; rw [Int.natAbs_neg]; exact h
theorem Bn.sub {m : Nat} {i j : Int} (h : Bn m i) (g : Bn m j) : Bn (m + 1) (i - j) := by
  rw [Int.sub_eq_add_neg]; exact h.add g.neg
theorem Bn.mul {m n : Nat} {i j : Int} (h : Bn m i) (g : Bn n j) : Bn (m + n) (i * j) := by
  unfold Bn at *
  rw [Int.natAbs_mul, Nat.pow_add]
  exact Nat.mul_le_mul h g
theorem Bn.of {n : Nat} {i : Int} (h1 : -(2 ^ n : Nat) ≤ i) (h2 : i ≤ (2 ^ n : Nat)) : Bn n i := by
  unfold Bn; omega
theorem Bn.lt {n : Nat} {i b : Int} (h1 : 0 ≤ i) (h2 : i < b) (h : b ≤ (2 ^ n : Nat)) : Bn n i := by
  unfold Bn; omega
theorem bits_le {n : Nat} {i : Int} (h : Bn n i) : bits i ≤ n + 1 := by
  unfold bits
  have : i.natAbs.log2 < n + 1 := by
    by_cases z : i.natAbs = 0
    · rw [z]; simp
    · exact (Nat.log2_lt z).mpr (Nat.lt_of_le_of_lt h (Nat.pow_lt_pow_right (by decide) (Nat.lt_succ_self n)))
  omega
theorem mulOk_of {m n : Nat} {i j : Int} (h : Bn m i) (g : Bn n j) (l : m + n < 899990) : mulOk i j = true := by
  unfold mulOk
  have := bits_le h
  have := bits_le g
  exact decide_eq_true (by omega)
section
variable {M : Ar} {i j : Int} {R : Rv → Prop} {B : Bool → Prop}
theorem l_add (h : R (.d (.int (i + j)))) : optP (oBin .add (.d (.int i)) (.d (.int j)) M) R := by
  simp only [oBin_eq, oCmp_eq, oIdx_eq, oSlc_eq, oBlt_eq, oIsin_eq, oIt_eq, oRng_eq, oZip_eq, oEnum_eq, oAsS_eq, oTgt_eq, oTgts_eq, oSets_eq, CA_eq, FA_eq, MT_eq, IR_eq]
  exact o_some h
theorem l_sub (h : R (.d (.int (i - j)))) : optP (oBin .sub (.d (.int i)) (.d (.int j)) M) R := by
  simp only [oBin_eq, oCmp_eq, oIdx_eq, oSlc_eq, oBlt_eq, oIsin_eq, oIt_eq, oRng_eq, oZip_eq, oEnum_eq, oAsS_eq, oTgt_eq, oTgts_eq, oSets_eq, CA_eq, FA_eq, MT_eq, IR_eq]
  exact o_some h
theorem l_mul (c : mulOk i j = true) (h : R (.d (.int (i * j)))) : optP (oBin .mul (.d (.int i)) (.d (.int j)) M) R := by
  simp only [oBin_eq, oCmp_eq, oIdx_eq, oSlc_eq, oBlt_eq, oIsin_eq, oIt_eq, oRng_eq, oZip_eq, oEnum_eq, oAsS_eq, oTgt_eq, oTgts_eq, oSets_eq, CA_eq, FA_eq, MT_eq, IR_eq]
  refine o_eq ?_ h
  show binInt .mul i j = _
  unfold binInt binI
  simp only [c, if_true]
theorem l_mod (c : 0 < j) (h : R (.d (.int (i % j)))) : optP (oBin .mod (.d (.int i)) (.d (.int j)) M) R := by
  simp only [oBin_eq, oCmp_eq, oIdx_eq, oSlc_eq, oBlt_eq, oIsin_eq, oIt_eq, oRng_eq, oZip_eq, oEnum_eq, oAsS_eq, oTgt_eq, oTgts_eq, oSets_eq, CA_eq, FA_eq, MT_eq, IR_eq]
  refine o_eq ?_ h
  show binInt .mod i j = _
  unfold binInt binI
  have : j ≠ 0 := by omega
  simp only [this, ne_eq, not_false_eq_true, if_true]
  rw [Int.fmod_eq_emod_of_nonneg _ (by omega)]
theorem l_div (c : 0 < j) {n : Nat} (b : Bn n j) (l : n < 8990) (h : R (.d (.int (i / j)))) : optP (oBin .div (.d (.int i)) (.d (.int j)) M) R := by
  simp only [oBin_eq, oCmp_eq, oIdx_eq, oSlc_eq, oBlt_eq, oIsin_eq, oIt_eq, oRng_eq, oZip_eq, oEnum_eq, oAsS_eq, oTgt_eq, oTgts_eq, oSets_eq, CA_eq, FA_eq, MT_eq, IR_eq]
  refine o_eq ?_ h
  show binInt .div i j = _
  unfold binInt binI
  have := bits_le b
  have e : (decide (0 < j) && decide (bits j < 9000)) = true := by simp [c]; omega
  simp only [e, if_true]
theorem l_pow (c : (decide (0 ≤ j) && decide ((bits i : Int) * j ≤ 1000000)) = true) (h : R (.d (.int (i ^ j.toNat)))) : optP (oBin .pow (.d (.int i)) (.d (.int j)) M) R := by
  simp only [oBin_eq, oCmp_eq, oIdx_eq, oSlc_eq, oBlt_eq, oIsin_eq, oIt_eq, oRng_eq, oZip_eq, oEnum_eq, oAsS_eq, oTgt_eq, oTgts_eq, oSets_eq, CA_eq, FA_eq, MT_eq, IR_eq]
  refine o_eq ?_ h
  show binInt .pow i j = _
  unfold binInt binI
  simp only [c, if_true]
theorem l_lt (h : B (decide (i < j))) : optP (oCmp .lt (.d (.int i)) (.d (.int j)) M) B := by
  simp only [oBin_eq, oCmp_eq, oIdx_eq, oSlc_eq, oBlt_eq, oIsin_eq, oIt_eq, oRng_eq, oZip_eq, oEnum_eq, oAsS_eq, oTgt_eq, oTgts_eq, oSets_eq, CA_eq, FA_eq, MT_eq, IR_eq]
  exact o_some h
theorem l_le (h : B (decide (i ≤ j))) : optP (oCmp .le (.d (.int i)) (.d (.int j)) M) B := by
  simp only [oBin_eq, oCmp_eq, oIdx_eq, oSlc_eq, oBlt_eq, oIsin_eq, oIt_eq, oRng_eq, oZip_eq, oEnum_eq, oAsS_eq, oTgt_eq, oTgts_eq, oSets_eq, CA_eq, FA_eq, MT_eq, IR_eq]
  exact o_some h
theorem l_gt (h : B (decide (j < i))) : optP (oCmp .gt (.d (.int i)) (.d (.int j)) M) B := by
  simp only [oBin_eq, oCmp_eq, oIdx_eq, oSlc_eq, oBlt_eq, oIsin_eq, oIt_eq, oRng_eq, oZip_eq, oEnum_eq, oAsS_eq, oTgt_eq, oTgts_eq, oSets_eq, CA_eq, FA_eq, MT_eq, IR_eq]
  exact o_some h
theorem l_ge (h : B (decide (j ≤ i))) : optP (oCmp .ge (.d (.int i)) (.d (.int j)) M) B := by
  simp only [oBin_eq, oCmp_eq, oIdx_eq, oSlc_eq, oBlt_eq, oIsin_eq, oIt_eq, oRng_eq, oZip_eq, oEnum_eq, oAsS_eq, oTgt_eq, oTgts_eq, oSets_eq, CA_eq, FA_eq, MT_eq, IR_eq]
  exact o_some h
theorem l_eq (h : B (decide (i = j))) : optP (oCmp .eq (.d (.int i)) (.d (.int j)) M) B := by
  simp only [oBin_eq, oCmp_eq, oIdx_eq, oSlc_eq, oBlt_eq, oIsin_eq, oIt_eq, oRng_eq, oZip_eq, oEnum_eq, oAsS_eq, oTgt_eq, oTgts_eq, oSets_eq, CA_eq, FA_eq, MT_eq, IR_eq]
  exact o_some h
theorem l_ne (h : B (!decide (i = j))) : optP (oCmp .ne (.d (.int i)) (.d (.int j)) M) B := by
  simp only [oBin_eq, oCmp_eq, oIdx_eq, oSlc_eq, oBlt_eq, oIsin_eq, oIt_eq, oRng_eq, oZip_eq, oEnum_eq, oAsS_eq, oTgt_eq, oTgts_eq, oSets_eq, CA_eq, FA_eq, MT_eq, IR_eq]
  exact o_some h
theorem l_int (h : R (.d (.int i))) : optP (oBlt .int [.d (.int i)] M) R := by
  simp only [oBin_eq, oCmp_eq, oIdx_eq, oSlc_eq, oBlt_eq, oIsin_eq, oIt_eq, oRng_eq, oZip_eq, oEnum_eq, oAsS_eq, oTgt_eq, oTgts_eq, oSets_eq, CA_eq, FA_eq, MT_eq, IR_eq]
  exact o_some h
theorem l_intb {b : Bool} (h : R (.d (.int (b2i b)))) : optP (oBlt .int [.d (.bl b)] M) R := by
  simp only [oBin_eq, oCmp_eq, oIdx_eq, oSlc_eq, oBlt_eq, oIsin_eq, oIt_eq, oRng_eq, oZip_eq, oEnum_eq, oAsS_eq, oTgt_eq, oTgts_eq, oSets_eq, CA_eq, FA_eq, MT_eq, IR_eq]
  exact o_some h
theorem l_abs (h : R (.d (.int (if i < 0 then -i else i)))) : optP (oBlt .abs [.d (.int i)] M) R := by
  simp only [oBin_eq, oCmp_eq, oIdx_eq, oSlc_eq, oBlt_eq, oIsin_eq, oIt_eq, oRng_eq, oZip_eq, oEnum_eq, oAsS_eq, oTgt_eq, oTgts_eq, oSets_eq, CA_eq, FA_eq, MT_eq, IR_eq]
  exact o_some h
theorem l_max (h : R (.d (.int (if j > i then j else i)))) : optP (oBlt .max [.d (.int i), .d (.int j)] M) R := by
  simp only [oBin_eq, oCmp_eq, oIdx_eq, oSlc_eq, oBlt_eq, oIsin_eq, oIt_eq, oRng_eq, oZip_eq, oEnum_eq, oAsS_eq, oTgt_eq, oTgts_eq, oSets_eq, CA_eq, FA_eq, MT_eq, IR_eq]
  exact o_some h
theorem l_min (h : R (.d (.int (if j < i then j else i)))) : optP (oBlt .min [.d (.int i), .d (.int j)] M) R := by
  simp only [oBin_eq, oCmp_eq, oIdx_eq, oSlc_eq, oBlt_eq, oIsin_eq, oIt_eq, oRng_eq, oZip_eq, oEnum_eq, oAsS_eq, oTgt_eq, oTgts_eq, oSets_eq, CA_eq, FA_eq, MT_eq, IR_eq]
  exact o_some h
theorem l_gcd (h : R (.d (.int (Nat.gcd i.natAbs j.natAbs : Nat)))) : optP (oBlt .gcd [.d (.int i), .d (.int j)] M) R := by
  simp only [oBin_eq, oCmp_eq, oIdx_eq, oSlc_eq, oBlt_eq, oIsin_eq, oIt_eq, oRng_eq, oZip_eq, oEnum_eq, oAsS_eq, oTgt_eq, oTgts_eq, oSets_eq, CA_eq, FA_eq, MT_eq, IR_eq]
  exact o_some h
theorem l_is {x : Rv} (h : B (isNon x)) : optP (oCmp .is_ x (.d .non) M) B := by
  simp only [oBin_eq, oCmp_eq, oIdx_eq, oSlc_eq, oBlt_eq, oIsin_eq, oIt_eq, oRng_eq, oZip_eq, oEnum_eq, oAsS_eq, oTgt_eq, oTgts_eq, oSets_eq, CA_eq, FA_eq, MT_eq, IR_eq]
  exact o_some h
theorem l_isn {x : Rv} (h : B (!isNon x)) : optP (oCmp .isn x (.d .non) M) B := by
  simp only [oBin_eq, oCmp_eq, oIdx_eq, oSlc_eq, oBlt_eq, oIsin_eq, oIt_eq, oRng_eq, oZip_eq, oEnum_eq, oAsS_eq, oTgt_eq, oTgts_eq, oSets_eq, CA_eq, FA_eq, MT_eq, IR_eq]
  exact o_some h
variable {ds es : List D} {I : Itv → Prop}
theorem l_lenT (h : R (.d (.int (ds.length : Nat)))) : optP (oBlt .len [.d (.tup ds)] M) R := by
  simp only [oBin_eq, oCmp_eq, oIdx_eq, oSlc_eq, oBlt_eq, oIsin_eq, oIt_eq, oRng_eq, oZip_eq, oEnum_eq, oAsS_eq, oTgt_eq, oTgts_eq, oSets_eq, CA_eq, FA_eq, MT_eq, IR_eq]
  exact o_some h
theorem l_lenV (h : R (.d (.int (ds.length : Nat)))) : optP (oBlt .len [.d (.vl ds)] M) R := by
  simp only [oBin_eq, oCmp_eq, oIdx_eq, oSlc_eq, oBlt_eq, oIsin_eq, oIt_eq, oRng_eq, oZip_eq, oEnum_eq, oAsS_eq, oTgt_eq, oTgts_eq, oSets_eq, CA_eq, FA_eq, MT_eq, IR_eq]
  exact o_some h
theorem l_lenL (h : R (.d (.int (ds.length : Nat)))) : optP (oBlt .len [.l ds] M) R := by
  simp only [oBin_eq, oCmp_eq, oIdx_eq, oSlc_eq, oBlt_eq, oIsin_eq, oIt_eq, oRng_eq, oZip_eq, oEnum_eq, oAsS_eq, oTgt_eq, oTgts_eq, oSets_eq, CA_eq, FA_eq, MT_eq, IR_eq]
  exact o_some h
theorem l_lenR (h : R (.d (.int (ds.length : Nat)))) : optP (oBlt .len [.d (.rl ds)] M) R := by
  simp only [oBin_eq, oCmp_eq, oIdx_eq, oSlc_eq, oBlt_eq, oIsin_eq, oIt_eq, oRng_eq, oZip_eq, oEnum_eq, oAsS_eq, oTgt_eq, oTgts_eq, oSets_eq, CA_eq, FA_eq, MT_eq, IR_eq]
  exact o_some h
theorem l_tupL (h : R (.d (.tup ds))) : optP (oBlt .tuple [.l ds] M) R := by
  simp only [oBin_eq, oCmp_eq, oIdx_eq, oSlc_eq, oBlt_eq, oIsin_eq, oIt_eq, oRng_eq, oZip_eq, oEnum_eq, oAsS_eq, oTgt_eq, oTgts_eq, oSets_eq, CA_eq, FA_eq, MT_eq, IR_eq]
  exact o_some h
theorem l_tupV (h : R (.d (.tup ds))) : optP (oBlt .tuple [.d (.vl ds)] M) R := by
  simp only [oBin_eq, oCmp_eq, oIdx_eq, oSlc_eq, oBlt_eq, oIsin_eq, oIt_eq, oRng_eq, oZip_eq, oEnum_eq, oAsS_eq, oTgt_eq, oTgts_eq, oSets_eq, CA_eq, FA_eq, MT_eq, IR_eq]
  exact o_some h
theorem l_tupT (h : R (.d (.tup ds))) : optP (oBlt .tuple [.d (.tup ds)] M) R := by
  simp only [oBin_eq, oCmp_eq, oIdx_eq, oSlc_eq, oBlt_eq, oIsin_eq, oIt_eq, oRng_eq, oZip_eq, oEnum_eq, oAsS_eq, oTgt_eq, oTgts_eq, oSets_eq, CA_eq, FA_eq, MT_eq, IR_eq]
  exact o_some h
theorem l_lstL (h : R (.l ds)) : optP (oBlt .list [.l ds] M) R := by
  simp only [oBin_eq, oCmp_eq, oIdx_eq, oSlc_eq, oBlt_eq, oIsin_eq, oIt_eq, oRng_eq, oZip_eq, oEnum_eq, oAsS_eq, oTgt_eq, oTgts_eq, oSets_eq, CA_eq, FA_eq, MT_eq, IR_eq]
  exact o_some h
theorem l_lstV (h : R (.l ds)) : optP (oBlt .list [.d (.vl ds)] M) R := by
  simp only [oBin_eq, oCmp_eq, oIdx_eq, oSlc_eq, oBlt_eq, oIsin_eq, oIt_eq, oRng_eq, oZip_eq, oEnum_eq, oAsS_eq, oTgt_eq, oTgts_eq, oSets_eq, CA_eq, FA_eq, MT_eq, IR_eq]
  exact o_some h
theorem l_lstT (h : R (.l ds)) : optP (oBlt .list [.d (.tup ds)] M) R := by
  simp only [oBin_eq, oCmp_eq, oIdx_eq, oSlc_eq, oBlt_eq, oIsin_eq, oIt_eq, oRng_eq, oZip_eq, oEnum_eq, oAsS_eq, oTgt_eq, oTgts_eq, oSets_eq, CA_eq, FA_eq, MT_eq, IR_eq]
  exact o_some h
/-- places -/
theorem asS_ref {n : Nat} (h : M[n]? = some (.lst ds)) : asS M (.d (.ref n)) = some ds := by
  show (match M[n]? with | some (.lst ds) => some ds | _ => none) = _
  rw [h]
theorem asL_ref {n : Nat} (h : M[n]? = some (.lst ds)) : asL M (.d (.ref n)) = some ds := by
  show (match M[n]? with | some (.lst ds) => some ds | _ => none) = _
  rw [h]
theorem l_tupR {n : Nat} (e : M[n]? = some (.lst ds)) (h : R (.d (.tup ds))) : optP (oBlt .tuple [.d (.ref n)] M) R := by
  simp only [oBin_eq, oCmp_eq, oIdx_eq, oSlc_eq, oBlt_eq, oIsin_eq, oIt_eq, oRng_eq, oZip_eq, oEnum_eq, oAsS_eq, oTgt_eq, oTgts_eq, oSets_eq, CA_eq, FA_eq, MT_eq, IR_eq]
  exact o_eq (by show Option.map _ (asS M (.d (.ref n))) = _; rw [asS_ref e]; rfl) h
theorem l_lstR {n : Nat} (e : M[n]? = some (.lst ds)) (h : R (.l ds)) : optP (oBlt .list [.d (.ref n)] M) R := by
  simp only [oBin_eq, oCmp_eq, oIdx_eq, oSlc_eq, oBlt_eq, oIsin_eq, oIt_eq, oRng_eq, oZip_eq, oEnum_eq, oAsS_eq, oTgt_eq, oTgts_eq, oSets_eq, CA_eq, FA_eq, MT_eq, IR_eq]
  exact o_eq (by show Option.map _ (asS M (.d (.ref n))) = _; rw [asS_ref e]; rfl) h
theorem l_lenP {n : Nat} (e : M[n]? = some (.lst ds)) (h : R (.d (.int (ds.length : Nat)))) : optP (oBlt .len [.d (.ref n)] M) R := by
  simp only [oBin_eq, oCmp_eq, oIdx_eq, oSlc_eq, oBlt_eq, oIsin_eq, oIt_eq, oRng_eq, oZip_eq, oEnum_eq, oAsS_eq, oTgt_eq, oTgts_eq, oSets_eq, CA_eq, FA_eq, MT_eq, IR_eq]
  exact o_eq (by show Option.map _ (asS M (.d (.ref n))) = _; rw [asS_ref e]; rfl) h
theorem l_tadd (c : ds.length + es.length ≤ line) (h : R (.d (.tup (ds ++ es)))) : optP (oBin .add (.d (.tup ds)) (.d (.tup es)) M) R := by
  simp only [oBin_eq, oCmp_eq, oIdx_eq, oSlc_eq, oBlt_eq, oIsin_eq, oIt_eq, oRng_eq, oZip_eq, oEnum_eq, oAsS_eq, oTgt_eq, oTgts_eq, oSets_eq, CA_eq, FA_eq, MT_eq, IR_eq]
  refine o_eq ?_ h
  show (if ds.length + es.length ≤ line then some (Rv.d (.tup (ds ++ es))) else none) = _
  rw [if_pos c]
theorem l_tmul {k : Int} (c : ds ≠ [] ∧ 1 ≤ k ∧ k ≤ 1000 ∧ ds.length ≤ 1000) (h : R (.d (.tup (List.replicate k.toNat ds).flatten))) : optP (oBin .mul (.d (.tup ds)) (.d (.int k)) M) R := by
  simp only [oBin_eq, oCmp_eq, oIdx_eq, oSlc_eq, oBlt_eq, oIsin_eq, oIt_eq, oRng_eq, oZip_eq, oEnum_eq, oAsS_eq, oTgt_eq, oTgts_eq, oSets_eq, CA_eq, FA_eq, MT_eq, IR_eq]
  refine o_eq ?_ h
  show (if ds ≠ [] ∧ 1 ≤ k ∧ k ≤ 1000 ∧ ds.length ≤ 1000 then some (Rv.d (.tup (List.replicate k.toNat ds).flatten)) else none) = _
  rw [if_pos c]
theorem l_ladd {x y : Rv} (hx : asL M x = some ds) (hy : asL M y = some es) (b : binop .add x y M = binLst .add x y M) (c : ds.length + es.length ≤ line) (h : R (.l (ds ++ es))) : optP (oBin .add x y M) R := by
  simp only [oBin_eq, oCmp_eq, oIdx_eq, oSlc_eq, oBlt_eq, oIsin_eq, oIt_eq, oRng_eq, oZip_eq, oEnum_eq, oAsS_eq, oTgt_eq, oTgts_eq, oSets_eq, CA_eq, FA_eq, MT_eq, IR_eq]
  refine o_eq ?_ h
  rw [b]
  show catL M x y = _
  unfold catL
  rw [hx, hy]
  simp only
  rw [if_pos c]
theorem l_addLL (c : ds.length + es.length ≤ line) (h : R (.l (ds ++ es))) : optP (oBin .add (.l ds) (.l es) M) R := l_ladd rfl rfl rfl c h
theorem l_addVL (c : ds.length + es.length ≤ line) (h : R (.l (ds ++ es))) : optP (oBin .add (.d (.vl ds)) (.l es) M) R := l_ladd rfl rfl rfl c h
theorem l_addLV (c : ds.length + es.length ≤ line) (h : R (.l (ds ++ es))) : optP (oBin .add (.l ds) (.d (.vl es)) M) R := l_ladd rfl rfl rfl c h
theorem l_addVV (c : ds.length + es.length ≤ line) (h : R (.l (ds ++ es))) : optP (oBin .add (.d (.vl ds)) (.d (.vl es)) M) R := l_ladd rfl rfl rfl c h
theorem l_lmul {x : Rv} {k : Int} (hx : asL M x = some ds) (b : binop .mul x (.d (.int k)) M = binLst .mul x (.d (.int k)) M) (c : -1000000 < k ∧ k < 1000000 ∧ ds.length * k.toNat ≤ line) (h : R (.l (List.replicate k.toNat ds).flatten)) : optP (oBin .mul x (.d (.int k)) M) R := by
  simp only [oBin_eq, oCmp_eq, oIdx_eq, oSlc_eq, oBlt_eq, oIsin_eq, oIt_eq, oRng_eq, oZip_eq, oEnum_eq, oAsS_eq, oTgt_eq, oTgts_eq, oSets_eq, CA_eq, FA_eq, MT_eq, IR_eq]
  refine o_eq ?_ h
  rw [b]
  show repL M x _ = _
  unfold repL
  rw [hx]
  simp only
  rw [if_pos c]
theorem l_mulL {k : Int} (c : -1000000 < k ∧ k < 1000000 ∧ ds.length * k.toNat ≤ line) (h : R (.l (List.replicate k.toNat ds).flatten)) : optP (oBin .mul (.l ds) (.d (.int k)) M) R := l_lmul rfl rfl c h
theorem l_mulV {k : Int} (c : -1000000 < k ∧ k < 1000000 ∧ ds.length * k.toNat ≤ line) (h : R (.l (List.replicate k.toNat ds).flatten)) : optP (oBin .mul (.d (.vl ds)) (.d (.int k)) M) R := l_lmul rfl rfl c h
theorem l_idx {x : Rv} {d : D} (hx : asS M x = some ds) (hn : ∀ cs, x ≠ .d (.str cs)) (hi : atD ds i = some d) (h : R (.d d)) : optP (oIdx x (.d (.int i)) M) R := by
  simp only [oBin_eq, oCmp_eq, oIdx_eq, oSlc_eq, oBlt_eq, oIsin_eq, oIt_eq, oRng_eq, oZip_eq, oEnum_eq, oAsS_eq, oTgt_eq, oTgts_eq, oSets_eq, CA_eq, FA_eq, MT_eq, IR_eq]
  refine o_eq ?_ h
  have e : (match (asS M x).bind (atD · i) with | some d => some (Rv.d d) | none => none) = some (.d d) := by
    rw [hx]
    show (match atD ds i with | some d => some (Rv.d d) | none => none) = _
    rw [hi]
  cases x with
  | d y =>
    cases y with
    | str cs => exact absurd rfl (hn cs)
    | _ => exact e
  | l _ => exact e
  | m _ _ _ => exact e
theorem lrange_some {i j : Int} (hi : small62 i = true) (hj : small62 j = true) (h : (j - i).toNat ≤ line) : lrange i j = some (rangeL i (j - i).toNat) := by
  unfold lrange
  rw [hi, hj, decide_eq_true h]; rfl
theorem l_lrg {j : Int} (hj : small62 j = true) (hl : j.toNat ≤ line) (h : R (.l (rangeL 0 j.toNat))) : optP (oOp1 .lrg (.d (.int j)) M) R := by
  have e : oOp1 .lrg (.d (.int j)) M = some (.l (rangeL 0 j.toNat)) := by
    simp only [oOp1_eq]
    show (lrange 0 j).map Rv.l = _
    rw [lrange_some rfl hj (by rw [Int.sub_zero]; exact hl), Int.sub_zero]; rfl
  rw [e]
  unfold optP; exact h
theorem l_lenset {x : Rv} {ds : List D} (hx : asS M x = some ds) (hk : ds.all keyable = true) (hl : ds.length ≤ 4000) (h : R (.d (.int ((metD ds).length : Nat)))) : optP (oOp1 .lenset x M) R := by
  have e : oOp1 .lenset x M = some (.d (.int ((metD ds).length : Nat))) := by
    simp only [oOp1_eq]
    show (match asS M x with | some ds => if (ds.all keyable && decide (ds.length ≤ 4000)) = true then some (Rv.d (.int ((metD ds).length : Nat))) else none | none => none) = _
    rw [hx]
    show (if (ds.all keyable && decide (ds.length ≤ 4000)) = true then _ else _) = _
    rw [hk, decide_eq_true hl]; rfl
  rw [e]
  unfold optP; exact h
theorem l_idxT {d : D} (hi : atD ds i = some d) (h : R (.d d)) : optP (oIdx (.d (.tup ds)) (.d (.int i)) M) R := l_idx rfl (fun _ z => nomatch z) hi h
theorem l_idxV {d : D} (hi : atD ds i = some d) (h : R (.d d)) : optP (oIdx (.d (.vl ds)) (.d (.int i)) M) R := l_idx rfl (fun _ z => nomatch z) hi h
theorem l_idxR {d : D} (hi : atD ds i = some d) (h : R (.d d)) : optP (oIdx (.d (.rl ds)) (.d (.int i)) M) R := l_idx rfl (fun _ z => nomatch z) hi h
theorem l_idxP {n : Nat} {d : D} (e : M[n]? = some (.lst ds)) (hi : atD ds i = some d) (h : R (.d d)) : optP (oIdx (.d (.ref n)) (.d (.int i)) M) R := l_idx (asS_ref e) (fun _ z => nomatch z) hi h
theorem l_slcT {l k : Option Int} (h : R (.d (.tup (cutD ds l k)))) : optP (oSlc (.d (.tup ds)) l k M) R := by
  simp only [oBin_eq, oCmp_eq, oIdx_eq, oSlc_eq, oBlt_eq, oIsin_eq, oIt_eq, oRng_eq, oZip_eq, oEnum_eq, oAsS_eq, oTgt_eq, oTgts_eq, oSets_eq, CA_eq, FA_eq, MT_eq, IR_eq]
  exact o_some h
theorem l_slcV {l k : Option Int} (h : R (.l (cutD ds l k))) : optP (oSlc (.d (.vl ds)) l k M) R := by
  simp only [oBin_eq, oCmp_eq, oIdx_eq, oSlc_eq, oBlt_eq, oIsin_eq, oIt_eq, oRng_eq, oZip_eq, oEnum_eq, oAsS_eq, oTgt_eq, oTgts_eq, oSets_eq, CA_eq, FA_eq, MT_eq, IR_eq]
  exact o_some h
theorem l_slcL {l k : Option Int} (h : R (.l (cutD ds l k))) : optP (oSlc (.l ds) l k M) R := by
  simp only [oBin_eq, oCmp_eq, oIdx_eq, oSlc_eq, oBlt_eq, oIsin_eq, oIt_eq, oRng_eq, oZip_eq, oEnum_eq, oAsS_eq, oTgt_eq, oTgts_eq, oSets_eq, CA_eq, FA_eq, MT_eq, IR_eq]
  exact o_some h
theorem l_itT (h : I (.st ds)) : optP (oIt (.d (.tup ds)) M) I := by
  simp only [oBin_eq, oCmp_eq, oIdx_eq, oSlc_eq, oBlt_eq, oIsin_eq, oIt_eq, oRng_eq, oZip_eq, oEnum_eq, oAsS_eq, oTgt_eq, oTgts_eq, oSets_eq, CA_eq, FA_eq, MT_eq, IR_eq]
  exact o_some h
theorem l_itV (h : I (.st ds)) : optP (oIt (.d (.vl ds)) M) I := by
  simp only [oBin_eq, oCmp_eq, oIdx_eq, oSlc_eq, oBlt_eq, oIsin_eq, oIt_eq, oRng_eq, oZip_eq, oEnum_eq, oAsS_eq, oTgt_eq, oTgts_eq, oSets_eq, CA_eq, FA_eq, MT_eq, IR_eq]
  exact o_some h
theorem l_itL (h : I (.st ds)) : optP (oIt (.l ds) M) I := by
  simp only [oBin_eq, oCmp_eq, oIdx_eq, oSlc_eq, oBlt_eq, oIsin_eq, oIt_eq, oRng_eq, oZip_eq, oEnum_eq, oAsS_eq, oTgt_eq, oTgts_eq, oSets_eq, CA_eq, FA_eq, MT_eq, IR_eq]
  exact o_some h
theorem l_rng1 (c : small62 j = true) (h : I (.st (rangeL 0 j.toNat))) : optP (oRng [.d (.int j)] M) I := by
  simp only [oBin_eq, oCmp_eq, oIdx_eq, oSlc_eq, oBlt_eq, oIsin_eq, oIt_eq, oRng_eq, oZip_eq, oEnum_eq, oAsS_eq, oTgt_eq, oTgts_eq, oSets_eq, CA_eq, FA_eq, MT_eq, IR_eq]
  refine o_eq ?_ h
  show (if small62 j then some (Itv.st (rangeL 0 j.toNat)) else none) = _
  rw [if_pos c]
theorem l_rng2 (c : small62 i = true) (c2 : small62 j = true) (h : I (.st (rangeL i (j - i).toNat))) : optP (oRng [.d (.int i), .d (.int j)] M) I := by
  simp only [oBin_eq, oCmp_eq, oIdx_eq, oSlc_eq, oBlt_eq, oIsin_eq, oIt_eq, oRng_eq, oZip_eq, oEnum_eq, oAsS_eq, oTgt_eq, oTgts_eq, oSets_eq, CA_eq, FA_eq, MT_eq, IR_eq]
  refine o_eq ?_ h
  show (if small62 i && small62 j then some (Itv.st (rangeL i (j - i).toNat)) else none) = _
  rw [c, c2]; rfl
theorem l_zipT (h : I (.st (zipD ds es))) : optP (oZip (.d (.tup ds)) (.d (.tup es)) M) I := by
  simp only [oBin_eq, oCmp_eq, oIdx_eq, oSlc_eq, oBlt_eq, oIsin_eq, oIt_eq, oRng_eq, oZip_eq, oEnum_eq, oAsS_eq, oTgt_eq, oTgts_eq, oSets_eq, CA_eq, FA_eq, MT_eq, IR_eq]
  exact o_some h
theorem l_zipVV (h : I (.st (zipD ds es))) : optP (oZip (.d (.vl ds)) (.d (.vl es)) M) I := by
  simp only [oBin_eq, oCmp_eq, oIdx_eq, oSlc_eq, oBlt_eq, oIsin_eq, oIt_eq, oRng_eq, oZip_eq, oEnum_eq, oAsS_eq, oTgt_eq, oTgts_eq, oSets_eq, CA_eq, FA_eq, MT_eq, IR_eq]
  exact o_some h
theorem l_zipLL (h : I (.st (zipD ds es))) : optP (oZip (.l ds) (.l es) M) I := by
  simp only [oBin_eq, oCmp_eq, oIdx_eq, oSlc_eq, oBlt_eq, oIsin_eq, oIt_eq, oRng_eq, oZip_eq, oEnum_eq, oAsS_eq, oTgt_eq, oTgts_eq, oSets_eq, CA_eq, FA_eq, MT_eq, IR_eq]
  exact o_some h
theorem l_zipVL (h : I (.st (zipD ds es))) : optP (oZip (.d (.vl ds)) (.l es) M) I := by
  simp only [oBin_eq, oCmp_eq, oIdx_eq, oSlc_eq, oBlt_eq, oIsin_eq, oIt_eq, oRng_eq, oZip_eq, oEnum_eq, oAsS_eq, oTgt_eq, oTgts_eq, oSets_eq, CA_eq, FA_eq, MT_eq, IR_eq]
  exact o_some h
theorem l_zipLV (h : I (.st (zipD ds es))) : optP (oZip (.l ds) (.d (.vl es)) M) I := by
  simp only [oBin_eq, oCmp_eq, oIdx_eq, oSlc_eq, oBlt_eq, oIsin_eq, oIt_eq, oRng_eq, oZip_eq, oEnum_eq, oAsS_eq, oTgt_eq, oTgts_eq, oSets_eq, CA_eq, FA_eq, MT_eq, IR_eq]
  exact o_some h
theorem l_enL (h : I (.st (enumFrom 0 ds))) : optP (oEnum (.l ds) M) I := by
  simp only [oBin_eq, oCmp_eq, oIdx_eq, oSlc_eq, oBlt_eq, oIsin_eq, oIt_eq, oRng_eq, oZip_eq, oEnum_eq, oAsS_eq, oTgt_eq, oTgts_eq, oSets_eq, CA_eq, FA_eq, MT_eq, IR_eq]
  exact o_some h
theorem l_enV (h : I (.st (enumFrom 0 ds))) : optP (oEnum (.d (.vl ds)) M) I := by
  simp only [oBin_eq, oCmp_eq, oIdx_eq, oSlc_eq, oBlt_eq, oIsin_eq, oIt_eq, oRng_eq, oZip_eq, oEnum_eq, oAsS_eq, oTgt_eq, oTgts_eq, oSets_eq, CA_eq, FA_eq, MT_eq, IR_eq]
  exact o_some h
theorem l_eqL (h : B ds.isEmpty) : optP (oCmp .eq (.l ds) (.l []) M) B := by
  simp only [oBin_eq, oCmp_eq, oIdx_eq, oSlc_eq, oBlt_eq, oIsin_eq, oIt_eq, oRng_eq, oZip_eq, oEnum_eq, oAsS_eq, oTgt_eq, oTgts_eq, oSets_eq, CA_eq, FA_eq, MT_eq, IR_eq]
  exact o_some h
theorem l_eqV (h : B ds.isEmpty) : optP (oCmp .eq (.d (.vl ds)) (.l []) M) B := by
  simp only [oBin_eq, oCmp_eq, oIdx_eq, oSlc_eq, oBlt_eq, oIsin_eq, oIt_eq, oRng_eq, oZip_eq, oEnum_eq, oAsS_eq, oTgt_eq, oTgts_eq, oSets_eq, CA_eq, FA_eq, MT_eq, IR_eq]
  exact o_some h
theorem l_eqP {n : Nat} (e : M[n]? = some (.lst ds)) (h : B ds.isEmpty) : optP (oCmp .eq (.d (.ref n)) (.l []) M) B := by
  simp only [oBin_eq, oCmp_eq, oIdx_eq, oSlc_eq, oBlt_eq, oIsin_eq, oIt_eq, oRng_eq, oZip_eq, oEnum_eq, oAsS_eq, oTgt_eq, oTgts_eq, oSets_eq, CA_eq, FA_eq, MT_eq, IR_eq]
  refine o_eq ?_ h
  show (match asL M (.d (.ref n)) with | some ds => some ds.isEmpty | none => cmpEq _ _ M) = _
  rw [asL_ref e]
theorem l_itR {n : Nat} (e : M[n]? = some (.lst ds)) (h : I (.one n)) : optP (oIt (.d (.ref n)) M) I := by
  simp only [oBin_eq, oCmp_eq, oIdx_eq, oSlc_eq, oBlt_eq, oIsin_eq, oIt_eq, oRng_eq, oZip_eq, oEnum_eq, oAsS_eq, oTgt_eq, oTgts_eq, oSets_eq, CA_eq, FA_eq, MT_eq, IR_eq]
  refine o_eq ?_ h
  show (match lstAt M n with | some _ => some (Itv.one n) | none => none) = _
  unfold lstAt
  rw [e]
theorem l_zipVP {n : Nat} (e : M[n]? = some (.lst es)) (h : I (.zip (.st false ds) (.rf n))) : optP (oZip (.d (.vl ds)) (.d (.ref n)) M) I := by
  simp only [oBin_eq, oCmp_eq, oIdx_eq, oSlc_eq, oBlt_eq, oIsin_eq, oIt_eq, oRng_eq, oZip_eq, oEnum_eq, oAsS_eq, oTgt_eq, oTgts_eq, oSets_eq, CA_eq, FA_eq, MT_eq, IR_eq]
  refine o_eq ?_ h
  have e' : srcAll M (.rf n) = some es := by show lstAt M n = _; unfold lstAt; rw [e]
  unfold zipIt srcOf
  simp only
  rw [if_pos (by rw [e']; rfl)]
theorem l_zipTP {n : Nat} (e : M[n]? = some (.lst es)) (h : I (.zip (.st true ds) (.rf n))) : optP (oZip (.d (.tup ds)) (.d (.ref n)) M) I := by
  rw [oZip_eq]
  refine o_eq ?_ h
  have e' : srcAll M (.rf n) = some es := by show lstAt M n = _; unfold lstAt; rw [e]
  unfold zipIt srcOf
  simp only
  rw [if_pos (by rw [e']; rfl)]
theorem l_zipTV (h : I (.st (zipD ds es))) : optP (oZip (.d (.tup ds)) (.d (.vl es)) M) I := by
  rw [oZip_eq]
  exact o_some h
theorem l_zipTL (h : I (.st (zipD ds es))) : optP (oZip (.d (.tup ds)) (.l es) M) I := by
  rw [oZip_eq]
  exact o_some h
theorem l_zipVT (h : I (.st (zipD ds es))) : optP (oZip (.d (.vl ds)) (.d (.tup es)) M) I := by
  rw [oZip_eq]
  exact o_some h
theorem l_zipLT (h : I (.st (zipD ds es))) : optP (oZip (.l ds) (.d (.tup es)) M) I := by
  rw [oZip_eq]
  exact o_some h
/-! targets -/
variable {E : Env → Prop} {env : Env} {d : D}
theorem k_nm {n : Nat} (h : E (env.set n (some d))) : optP (oTgt (.nm n) d env) E := by
  simp only [oBin_eq, oCmp_eq, oIdx_eq, oSlc_eq, oBlt_eq, oIsin_eq, oIt_eq, oRng_eq, oZip_eq, oEnum_eq, oAsS_eq, oTgt_eq, oTgts_eq, oSets_eq, CA_eq, FA_eq, MT_eq, IR_eq]
  exact o_some h
theorem k_tp {gs : Tgs} (h : optP (oTgts gs ds env) E) : optP (oTgt (.tp gs) (.tup ds) env) E := by
  simp only [oBin_eq, oCmp_eq, oIdx_eq, oSlc_eq, oBlt_eq, oIsin_eq, oIt_eq, oRng_eq, oZip_eq, oEnum_eq, oAsS_eq, oTgt_eq, oTgts_eq, oSets_eq, CA_eq, FA_eq, MT_eq, IR_eq] at *
  exact h
theorem k_nil (h : E env) : optP (oTgts .nil [] env) E := by
  simp only [oBin_eq, oCmp_eq, oIdx_eq, oSlc_eq, oBlt_eq, oIsin_eq, oIt_eq, oRng_eq, oZip_eq, oEnum_eq, oAsS_eq, oTgt_eq, oTgts_eq, oSets_eq, CA_eq, FA_eq, MT_eq, IR_eq]
  exact o_some h
theorem k_cons {g : Tg} {gs : Tgs} (h : optP (oTgt g d env) fun e => optP (oTgts gs ds e) E) : optP (oTgts (.cons g gs) (d :: ds) env) E := by
  simp only [oBin_eq, oCmp_eq, oIdx_eq, oSlc_eq, oBlt_eq, oIsin_eq, oIt_eq, oRng_eq, oZip_eq, oEnum_eq, oAsS_eq, oTgt_eq, oTgts_eq, oSets_eq, CA_eq, FA_eq, MT_eq, IR_eq] at *
  obtain ⟨e, e1, h⟩ := o_get h
  show optP (match tgt g d env with | some env' => tgts gs ds env' | none => none) E
  rw [e1]; exact h
theorem k_snil (h : E env) : optP (oSets [] [] env) E := by
  simp only [oBin_eq, oCmp_eq, oIdx_eq, oSlc_eq, oBlt_eq, oIsin_eq, oIt_eq, oRng_eq, oZip_eq, oEnum_eq, oAsS_eq, oTgt_eq, oTgts_eq, oSets_eq, CA_eq, FA_eq, MT_eq, IR_eq]
  exact o_some h
theorem k_scons {n : Nat} {ns : List Nat} (h : optP (oSets ns ds (env.set n (some d))) E) : optP (oSets (n :: ns) (d :: ds) env) E := by
  simp only [oBin_eq, oCmp_eq, oIdx_eq, oSlc_eq, oBlt_eq, oIsin_eq, oIt_eq, oRng_eq, oZip_eq, oEnum_eq, oAsS_eq, oTgt_eq, oTgts_eq, oSets_eq, CA_eq, FA_eq, MT_eq, IR_eq] at *
  exact h
end
/-! walks over places -/
theorem lst_at {M : Ar} {n : Nat} {ds : List D} (e : M[n]? = some (.lst ds)) : lstAt M n = some ds := by unfold lstAt; rw [e]
theorem zipD_at : ∀ {a b : List D} {i : Nat} {d : D}, (zipD a b)[i]? = some d → ∃ x y, a[i]? = some x ∧ b[i]? = some y ∧ d = .tup [x, y]
  | [], _, _, _, h => by simp [zipD] at h
  | _ :: _, [], _, _, h => by simp [zipD] at h
  | x :: a, y :: b, 0, d, h => by
    simp [zipD] at h
    exact ⟨x, y, rfl, rfl, h.symm⟩
  | x :: a, y :: b, i + 1, d, h => by
    have h : (zipD a b)[i]? = some d := by simpa [zipD] using h
    obtain ⟨u, v, h1, h2, h3⟩ := zipD_at h
    exact ⟨u, v, by simpa using h1, by simpa using h2, h3⟩
theorem zipD_length : ∀ a b : List D, (zipD a b).length = min a.length b.length
  | [], _ => by simp [zipD]
  | _ :: _, [] => by simp [zipD]
  | x :: a, y :: b => by
    show (zipD a b).length + 1 = _
    rw [zipD_length a b]; simp
theorem walks_one {M : Ar} {n : Nat} {ds : List D} (e : M[n]? = some (.lst ds)) : Walks M (.one n) ds := by
  refine ⟨by show (lstAt M n).map _ = _; rw [lst_at e]; rfl, fun i d h => ?_⟩
  show (lstAt M n).bind _ = _
  rw [lst_at e]; exact h
theorem walks_zip {M : Ar} {a b : Src} {ds es : List D} (ha : srcAll M a = some ds) (hb : srcAll M b = some es) : Walks M (.zip a b) (zipD ds es) := by
  refine ⟨?_, fun i d h => ?_⟩
  · show (match srcAll M a, srcAll M b with | some x, some y => some (min x.length y.length) | _, _ => none) = _
    rw [ha, hb, zipD_length]
  · obtain ⟨x, y, h1, h2, rfl⟩ := zipD_at h
    show (match (srcAll M a).bind (·[i]?), (srcAll M b).bind (·[i]?) with | some x, some y => some (D.tup [x, y]) | _, _ => none) = _
    rw [ha, hb]
    simp only [Option.bind_some, h1, h2]
theorem src_rf {M : Ar} {n : Nat} {ds : List D} (e : M[n]? = some (.lst ds)) : srcAll M (.rf n) = some ds := lst_at e
/-! ### what is written -/
theorem pu_at {M : Ar} {n : Nat} {i : Int} {j : Nat} {ds : List D} {d : D} {R : Ar → Prop} (e : M[n]? = some (.lst ds)) (hj : ixD ds.length i = some j) (h : R (M.set n (.lst (ds.set j d)))) : PU (.d (.ref n)) (.d (.int i)) d M R := by
  unfold PU putAt
  simp only [e, hj]
  exact h
theorem pu_to {M M' : Ar} {n : Nat} {i : Int} {j : Nat} {ds : List D} {d : D} {R : Ar → Prop} (e : M[n]? = some (.lst ds)) (hj : ixD ds.length i = some j) (em : M.set n (.lst (ds.set j d)) = M') (h : R M') : PU (.d (.ref n)) (.d (.int i)) d M R := pu_at e hj (em ▸ h)
theorem m_ref {M : Ar} {n : Nat} {ds : List D} {R : Unit → Ar → Prop} {X : Nat → D → Ar → Prop} (e : M[n]? = some (.lst ds)) (h : R () M) : IR (.ref n) M R X := by
  simp only [oBin_eq, oCmp_eq, oIdx_eq, oSlc_eq, oBlt_eq, oIsin_eq, oIt_eq, oRng_eq, oZip_eq, oEnum_eq, oAsS_eq, oTgt_eq, oTgts_eq, oSets_eq, CA_eq, FA_eq, MT_eq, IR_eq]
  unfold isRefN dN isRefM lstAt
  simp only [e]
  exact h
theorem m_app {M : Ar} {n : Nat} {ds : List D} {d : D} {R : Rv → Ar → Prop} {X : Nat → D → Ar → Prop} (e : M[n]? = some (.lst ds)) (c : ds.length < line) (h : R (.d .non) (M.set n (.lst (ds ++ [d])))) : MT .append (.ref n) [d] M R X := by
  simp only [oBin_eq, oCmp_eq, oIdx_eq, oSlc_eq, oBlt_eq, oIsin_eq, oIt_eq, oRng_eq, oZip_eq, oEnum_eq, oAsS_eq, oTgt_eq, oTgts_eq, oSets_eq, CA_eq, FA_eq, MT_eq, IR_eq]
  unfold methodN dN method
  simp only [e]
  rw [if_pos c]
  exact h
/-! ### behind a call -/
theorem tq_self {M : Ar} {r : Rv} {R : Rv → Ar → Prop} (h : R r M) : TQ M r M R := by
  unfold TQ trunc
  simp only
  rw [if_neg (by simp)]
  exact h
theorem tq_len {M M' : Ar} {r : Rv} {R : Rv → Ar → Prop} (hl : M'.length = M.length) (h : R r M') : TQ M r M' R := by
  unfold TQ trunc
  simp only
  rw [if_neg (by simp [hl])]
  exact h
theorem D.eqb_refl' : ∀ n : Nat, (∀ d : D, sizeOf d < n → D.eqb d d = true) ∧ ∀ ds : List D, sizeOf ds < n → D.eqbs ds ds = true := by
  intro n
  induction n with
  | zero => exact ⟨fun _ z => absurd z (Nat.not_lt_zero _), fun _ z => absurd z (Nat.not_lt_zero _)⟩
  | succ n ih =>
    refine ⟨fun d hs => ?_, fun ds hs => ?_⟩
    · cases d with
      | tup ds => exact ih.2 ds (by simp at hs; omega)
      | rl ds => exact ih.2 ds (by simp at hs; omega)
      | vl ds => exact ih.2 ds (by simp at hs; omega)
      | vd t ks vs =>
        show (t == t && (D.eqbs ks ks && D.eqbs vs vs)) = true
        rw [ih.2 ks (by simp at hs; omega), ih.2 vs (by simp at hs; omega)]; simp
      | non => rfl
      | bl b => cases b <;> rfl
      | int i => show decide (i = i) = true; simp
      | str i => show decide (i = i) = true; simp
      | ref i => show Nat.beq i i = true; exact Nat.beq_refl i
    · cases ds with
      | nil => rfl
      | cons d ds =>
        show (D.eqb d d && D.eqbs ds ds) = true
        rw [ih.1 d (by simp at hs; omega), ih.2 ds (by simp at hs; omega)]; rfl
theorem D.eqbs_refl (ds : List D) : D.eqbs ds ds = true := (D.eqb_refl' _).2 ds (Nat.lt_succ_self _)
theorem Ob.eqb_refl : ∀ a : Ob, Ob.eqb a a = true
  | .lst a => D.eqbs_refl a
  | .dct t a b => by
    show (t == t && (D.eqbs a a && D.eqbs b b)) = true
    rw [D.eqbs_refl, D.eqbs_refl]; simp
  | .spn => rfl
theorem okOld_push (n : Nat) : ∀ M g : Ar, okOld n M (M ++ g) = true
  | [], _ => rfl
  | o :: os, g => by
    show ((o.refsLt n || o.eqb o) && okOld n os (os ++ g)) = true
    rw [Ob.eqb_refl, okOld_push n os g]; simp
/-- what the callee put into the arena is dropped -/
theorem tq_push {M g : Ar} {r r' : Rv} {R : Rv → Ar → Prop} (hr : relR (M ++ g) M.length r = some r') (h : g ≠ [] → R r' M) (h0 : g = [] → R r M) : TQ M r (M ++ g) R := by
  by_cases hg : g = []
  · subst hg
    rw [List.append_nil]
    exact tq_self (h0 rfl)
  · unfold TQ trunc
    simp only
    have : 0 < g.length := List.length_pos_iff.mpr hg
    rw [if_pos (by rw [okOld_push]; simp; omega)]
    rw [hr]
    simp only
    rw [List.take_left']
    · exact h hg
    · rfl
/-- places named in a value: none -/
abbrev Pur (d : D) : Prop := d.refsLt 0 = true
abbrev Purs (ds : List D) : Prop := D.refsLt_all 0 ds = true
theorem refs_le {m n : Nat} (h : m ≤ n) : ∀ s : Nat, (∀ d : D, sizeOf d < s → D.refsLt m d = true → D.refsLt n d = true) ∧ ∀ ds : List D, sizeOf ds < s → D.refsLt_all m ds = true → D.refsLt_all n ds = true := by
  intro s
  induction s with
  | zero => exact ⟨fun _ z => absurd z (Nat.not_lt_zero _), fun _ z => absurd z (Nat.not_lt_zero _)⟩
  | succ s ih =>
    refine ⟨fun d hs hd => ?_, fun ds hs hd => ?_⟩
    · cases d with
      | tup ds => exact ih.2 ds (by simp at hs; omega) hd
      | rl ds => exact ih.2 ds (by simp at hs; omega) hd
      | vl ds => exact ih.2 ds (by simp at hs; omega) hd
      | vd t ks vs => exact ih.2 vs (by simp at hs; omega) hd
      | ref k =>
        have hd : Nat.blt k m = true := hd
        show Nat.blt k n = true
        rw [Nat.blt_eq] at *
        omega
      | _ => rfl
    · cases ds with
      | nil => rfl
      | cons d ds =>
        have hd : (d.refsLt m && D.refsLt_all m ds) = true := hd
        rw [Bool.and_eq_true] at hd
        show (d.refsLt n && D.refsLt_all n ds) = true
        rw [ih.1 d (by simp at hs; omega) hd.1, ih.2 ds (by simp at hs; omega) hd.2]; rfl
theorem Pur.lt {d : D} (h : Pur d) (n : Nat) : d.refsLt n = true := (refs_le (Nat.zero_le n) _).1 d (Nat.lt_succ_self _) h
theorem Purs.lt {ds : List D} (h : Purs ds) (n : Nat) : D.refsLt_all n ds = true := (refs_le (Nat.zero_le n) _).2 ds (Nat.lt_succ_self _) h
theorem Purs.mem : ∀ {ds : List D}, Purs ds → ∀ d ∈ ds, Pur d
  | d :: ds, h, e, he => by
    have h : (d.refsLt 0 && D.refsLt_all 0 ds) = true := h
    rw [Bool.and_eq_true] at h
    rcases List.mem_cons.mp he with rfl | he
    · exact h.1
    · exact Purs.mem h.2 e he
theorem Purs.of : ∀ {ds : List D}, (∀ d ∈ ds, Pur d) → Purs ds
  | [], _ => rfl
  | d :: ds, h => by
    show (d.refsLt 0 && D.refsLt_all 0 ds) = true
    rw [show d.refsLt 0 = true from h d (List.mem_cons_self ..), show D.refsLt_all 0 ds = true from Purs.of fun x hx => h x (List.mem_cons_of_mem _ hx)]; rfl
/-- a value that names no place comes back as it is -/
theorem tq_pure {M g : Ar} {d : D} {R : Rv → Ar → Prop} (hp : Pur d) (h : R (.d d) M) : TQ M (.d d) (M ++ g) R := by
  refine tq_push (r' := .d d) ?_ (fun _ => h) (fun _ => h)
  cases d with
  | ref n => exact absurd hp (by simp [Pur, D.refsLt, Nat.blt])
  | _ => unfold relR; exact if_pos (Pur.lt hp M.length)
theorem tq_pureL {M g : Ar} {ds : List D} {R : Rv → Ar → Prop} (hp : Purs ds) (h : R (.l ds) M) : TQ M (.l ds) (M ++ g) R := by
  refine tq_push (r' := .l ds) ?_ (fun _ => h) (fun _ => h)
  show (relL _ _ _ ds).map Rv.l = _
  unfold relL
  rw [if_pos (hp.lt _)]; rfl
/-- a list that the callee has built up -/
theorem tq_built {M : Ar} {ds : List D} {g : Ar} {R : Rv → Ar → Prop} (hp : Purs ds) (h : R (.l ds) M) : TQ M (.d (.ref M.length)) (M ++ .lst ds :: g) R := by
  refine tq_push (r' := .l ds) ?_ (fun _ => h) (fun z => by cases z)
  show (if M.length < M.length then _ else match (M ++ .lst ds :: g)[M.length]? with
    | some (.lst ds) => (relL _ M.length M.length ds).map Rv.l
    | some (.dct t ks vs) => (relL _ M.length M.length vs).map (Rv.m t ks)
    | _ => none) = _
  rw [if_neg (Nat.lt_irrefl _), List.getElem?_append_right (Nat.le_refl _), Nat.sub_self]
  show (relL _ _ _ ds).map Rv.l = _
  unfold relL
  rw [if_pos (hp.lt _)]; rfl
/-! ### draws -/
theorem ph_spin {fs p fuel : Nat} {T : Nat → Option Df} {k : Nat} {t : Int} {M : Ar} {R : Rv → Ar → Prop} {X : Nat → D → Ar → Prop} (hM : M[p]? = some .spn) (h0 : 0 < t) (hb : t.natAbs ≤ 2 ^ 8000) (h : ∀ r : Int, 0 ≤ r → r < t → R (.d (.int r)) M) : PH (spSpin fs p) fuel T (k + 1) fs [.ref p, .int t] M R X := by
  unfold PH
  show (match spSpin fs p fs with
    | some g => g [.ref p, .int t] (match T fs with
      | some d => runBodyN (PhiN (spSpin fs p) fuel T k) fuel d [.ref p, .int t]
      | none => stkN)
    | none => (match T fs with
      | some d => runBodyN (PhiN (spSpin fs p) fuel T k) fuel d [.ref p, .int t]
      | none => stkN)) M R X
  have e : spSpin fs p fs = some (spinN p) := if_pos rfl
  rw [e]
  show (if p = p ∧ isSpn M[p]? = true then 0 < t ∧ t.natAbs ≤ 2 ^ 8000 ∧ ∀ r : Int, 0 ≤ r → r < t → R (.d (.int r)) M else _)
  rw [if_pos ⟨rfl, isSpn_iff.mpr hM⟩]
  exact ⟨h0, hb, h⟩
end Q
end

section
set_option Elab.async false
set_option linter.all false
set_option maxRecDepth 100000
/-! Steps; the laws' draws. -/
namespace Q
/-- an equation that simp shall write down, not leave to the kernel's look -/
theorem nr {α : Sort _} {a b : α} (h : a = b) : a = b := h
class MonoC (sp : Spec) : Prop where
  is : MonoS sp
instance : MonoC spNone := ⟨monoS_none⟩
instance {fs p : Nat} : MonoC (spSpin fs p) := ⟨monoS_spin⟩
/-- only one def is told by its promise: the one that draws -/
class SpC (fs : Nat) (sp : Spec) : Prop extends MonoC sp where
  off : ∀ f, f ≠ fs → sp f = none
instance {fs : Nat} : SpC fs spNone := ⟨fun _ _ => rfl⟩
instance {fs p : Nat} : SpC fs (spSpin fs p) := ⟨fun _ h => if_neg h⟩
theorem PHm {sp : Spec} [h : MonoC sp] {fuel : Nat} {T : Nat → Option Df} {k : Nat} : MonoF (PH sp fuel T k) := PH.mono h.is
theorem l_neBB {b : Bool} {M : Ar} {B : Bool → Prop} (h : B false) : optP (oCmp .ne (.d (.bl b)) (.d (.bl b)) M) B := by rw [oCmp_eq]; cases b <;> exact o_eq rfl h
theorem if_y {P : Prop} [Decidable P] {p q : Prop} (h : P) (g : p) : ifB (decide P) p q := by rw [decide_eq_true h]; exact if_t g
theorem if_n {P : Prop} [Decidable P] {p q : Prop} (h : ¬ P) (g : q) : ifB (decide P) p q := by rw [decide_eq_false h]; exact if_f g
theorem if_d {P : Prop} [Decidable P] {p q : Prop} (h : P → p) (g : ¬ P → q) : ifB (decide P) p q := if_b (fun e => h (of_decide_eq_true e)) (fun e => g (of_decide_eq_false e))
theorem if_nd {P : Prop} [Decidable P] {p q : Prop} (h : P → q) (g : ¬ P → p) : ifB (!decide P) p q := by
  by_cases c : P
  · rw [decide_eq_true c]; exact if_f (h c)
  · rw [decide_eq_false c]; exact if_t (g c)
theorem valR_d {d : D} : valR (.d d) = d := nr rfl
theorem valR_l {ds : List D} : valR (.l ds) = .vl ds := nr rfl
theorem valR_m {t : Bool} {ks vs : List D} : valR (.m t ks vs) = .vd t ks vs := nr rfl
theorem few {α : Type} {ds : List α} {P : Prop} (h : ds.length ≤ line) (p : P) : ds.length ≤ line ∧ P := ⟨h, p⟩
local macro_rules | `(tactic| array_get_dec) => `(tactic| simp only [List.map_cons, List.map_nil, List.length_cons, List.length_nil, List.cons_append, List.nil_append, List.append_nil, Nat.reduceAdd, Nat.reduceSub, Nat.zero_add, Nat.sub_self, List.replicate_zero, List.replicate_succ, List.reduceReplicate, valR_d, valR_l, valR_m])
local macro_rules | `(tactic| decreasing_trivial) => `(tactic| (repeat (first | (first | refine e_var ?_ | refine g_s ?_ | refine g_0 ?_ | refine e_cst ?_ | refine a_cons PHm ?_ | refine r_cons PHm ?_ | refine a_nil PHm ?_ | refine r_nil PHm ?_ | refine e_cmp PHm ?_ | refine e_bin PHm ?_ | refine e_call PHm ?_ | refine e_blt PHm ?_ | refine e_idx PHm ?_ | refine e_op1 PHm ?_ | refine e_op2 PHm ?_ | refine b_bl ?_ | refine e_tup PHm ?_ | refine e_lst PHm ?_ | refine s_asg PHm ?_ | refine k_nm ?_ | refine n_nx ?_ | refine s_ret PHm ?_ | refine s_ite PHm ?_ | refine f_rt ?_ | refine n_rt ?_ | refine if_t ?_ | refine if_f ?_ | refine tq_self ?_ | refine e_and PHm ?_ | refine e_or PHm ?_ | refine e_nt PHm ?_ | refine e_ite PHm ?_ | refine e_isin PHm ?_ | refine e_comp PHm ?_ | refine e_slcA PHm rfl ?_ | refine e_slcB PHm rfl ?_ | refine e_slc PHm rfl rfl ?_ | refine i_int ?_ | refine e_chain PHm ?_ | refine e_neg PHm ?_ | refine e_meth PHm ?_ | refine e_dict0 PHm ?_ | refine a_star PHm ?_ | refine a_plc PHm ?_ | refine w_seq PHm ?_ | refine w_rng PHm ?_ | refine w_zip PHm ?_ | refine w_enum PHm ?_ | refine ss_nil PHm ?_ | refine s_asgP PHm ?_ | refine s_par PHm ?_ | refine s_put PHm ?_ | refine s_expr PHm ?_ | refine s_retN PHm ?_ | refine s_for PHm ?_ | refine s_pass PHm ?_ | refine s_brk PHm ?_ | refine s_cont PHm ?_ | refine n_bk ?_ | refine n_ct ?_ | refine f_nx ?_ | refine fk_nx ?_ | refine fk_ct ?_ | refine fk_bk ?_ | refine fk_rt ?_ | refine p_l ?_ | refine p_d ?_ | refine p_m ?_ | refine k_cons ?_ | refine k_nil ?_ | refine k_tp ?_ | refine k_scons ?_ | refine k_snil ?_ | refine t_turn PHm ?_) | (first | refine l_add ?_ | refine l_sub ?_ | refine l_lt ?_ | refine l_le ?_ | refine l_gt ?_ | refine l_ge ?_ | refine l_eq ?_ | refine l_ne ?_ | refine l_is ?_ | refine l_isn ?_ | refine l_int ?_ | refine l_intb ?_ | refine l_abs ?_ | refine l_max ?_ | refine l_min ?_ | refine l_gcd ?_ | refine l_lenT ?_ | refine l_lenV ?_ | refine l_lenL ?_ | refine l_lenR ?_ | refine l_tupL ?_ | refine l_tupV ?_ | refine l_tupT ?_ | refine l_lstL ?_ | refine l_lstV ?_ | refine l_lstT ?_ | refine l_slcT ?_ | refine l_slcV ?_ | refine l_slcL ?_ | refine l_itT ?_ | refine l_itV ?_ | refine l_itL ?_ | refine l_zipT ?_ | refine l_zipVV ?_ | refine l_zipLL ?_ | refine l_zipVL ?_ | refine l_zipLV ?_ | refine l_zipTV ?_ | refine l_zipTL ?_ | refine l_zipVT ?_ | refine l_zipLT ?_ | refine l_enL ?_ | refine l_enV ?_ | refine l_eqL ?_ | refine l_eqV ?_ | refine l_neBB ?_ | refine few (Nat.le_of_ble_eq_true rfl) ?_ | refine l_addLL (Nat.le_of_ble_eq_true rfl) ?_ | refine l_addVL (Nat.le_of_ble_eq_true rfl) ?_ | refine l_addLV (Nat.le_of_ble_eq_true rfl) ?_ | refine l_addVV (Nat.le_of_ble_eq_true rfl) ?_)); try simp only [List.set_cons_succ, List.set_cons_zero, valR_d, valR_l, valR_m, wipe]))
local macro_rules | `(tactic| decreasing_tactic) => `(tactic| (repeat (first | (first | (first | refine e_var ?_ | refine g_s ?_ | refine g_0 ?_ | refine e_cst ?_ | refine a_cons PHm ?_ | refine r_cons PHm ?_ | refine a_nil PHm ?_ | refine r_nil PHm ?_ | refine e_cmp PHm ?_ | refine e_bin PHm ?_ | refine e_call PHm ?_ | refine e_blt PHm ?_ | refine e_idx PHm ?_ | refine e_op1 PHm ?_ | refine e_op2 PHm ?_ | refine b_bl ?_ | refine e_tup PHm ?_ | refine e_lst PHm ?_ | refine s_asg PHm ?_ | refine k_nm ?_ | refine n_nx ?_ | refine s_ret PHm ?_ | refine s_ite PHm ?_ | refine f_rt ?_ | refine n_rt ?_ | refine if_t ?_ | refine if_f ?_ | refine tq_self ?_ | refine e_and PHm ?_ | refine e_or PHm ?_ | refine e_nt PHm ?_ | refine e_ite PHm ?_ | refine e_isin PHm ?_ | refine e_comp PHm ?_ | refine e_slcA PHm rfl ?_ | refine e_slcB PHm rfl ?_ | refine e_slc PHm rfl rfl ?_ | refine i_int ?_ | refine e_chain PHm ?_ | refine e_neg PHm ?_ | refine e_meth PHm ?_ | refine e_dict0 PHm ?_ | refine a_star PHm ?_ | refine a_plc PHm ?_ | refine w_seq PHm ?_ | refine w_rng PHm ?_ | refine w_zip PHm ?_ | refine w_enum PHm ?_ | refine ss_nil PHm ?_ | refine s_asgP PHm ?_ | refine s_par PHm ?_ | refine s_put PHm ?_ | refine s_expr PHm ?_ | refine s_retN PHm ?_ | refine s_for PHm ?_ | refine s_pass PHm ?_ | refine s_brk PHm ?_ | refine s_cont PHm ?_ | refine n_bk ?_ | refine n_ct ?_ | refine f_nx ?_ | refine fk_nx ?_ | refine fk_ct ?_ | refine fk_bk ?_ | refine fk_rt ?_ | refine p_l ?_ | refine p_d ?_ | refine p_m ?_ | refine k_cons ?_ | refine k_nil ?_ | refine k_tp ?_ | refine k_scons ?_ | refine k_snil ?_ | refine t_turn PHm ?_) | refine ss_cons PHm ?_) | (first | refine l_add ?_ | refine l_sub ?_ | refine l_lt ?_ | refine l_le ?_ | refine l_gt ?_ | refine l_ge ?_ | refine l_eq ?_ | refine l_ne ?_ | refine l_is ?_ | refine l_isn ?_ | refine l_int ?_ | refine l_intb ?_ | refine l_abs ?_ | refine l_max ?_ | refine l_min ?_ | refine l_gcd ?_ | refine l_lenT ?_ | refine l_lenV ?_ | refine l_lenL ?_ | refine l_lenR ?_ | refine l_tupL ?_ | refine l_tupV ?_ | refine l_tupT ?_ | refine l_lstL ?_ | refine l_lstV ?_ | refine l_lstT ?_ | refine l_slcT ?_ | refine l_slcV ?_ | refine l_slcL ?_ | refine l_itT ?_ | refine l_itV ?_ | refine l_itL ?_ | refine l_zipT ?_ | refine l_zipVV ?_ | refine l_zipLL ?_ | refine l_zipVL ?_ | refine l_zipLV ?_ | refine l_zipTV ?_ | refine l_zipTL ?_ | refine l_zipVT ?_ | refine l_zipLT ?_ | refine l_enL ?_ | refine l_enV ?_ | refine l_eqL ?_ | refine l_eqV ?_ | refine l_neBB ?_ | refine few (Nat.le_of_ble_eq_true rfl) ?_ | refine l_addLL (Nat.le_of_ble_eq_true rfl) ?_ | refine l_addVL (Nat.le_of_ble_eq_true rfl) ?_ | refine l_addLV (Nat.le_of_ble_eq_true rfl) ?_ | refine l_addVV (Nat.le_of_ble_eq_true rfl) ?_)); try simp only [List.set_cons_succ, List.set_cons_zero, valR_d, valR_l, valR_m, wipe]))
/-- a def of the text by its body, when its arguments are told -/
theorem ph_b {sp : Spec} [hm : MonoC sp] {fuel : Nat} {T : Nat → Option Df} {k f : Nat} {args : List D} {M : Ar} {R : Rv → Ar → Prop} {X : Nat → D → Ar → Prop} {d : Df} (hs : sp f = none) (hT : T f = some d) (ha : args.length = d.ar)
    (h : SSs (PH sp fuel T k) fuel d.body (args.map some ++ List.replicate (d.sl - args.length) none) M (fun fl M1 => finR fl fun r => R r M1) X) : PH sp fuel T (k + 1) f args M R X := ph_body hm.is hT hs ha h
theorem ixD_nat {n : Nat} {i : Int} (h0 : 0 ≤ i) (h : i < n) : ixD n i = some i.toNat := by
  unfold ixD
  rw [if_pos h0, if_pos h]
theorem atD_nat {α : Type} {ds : List α} {i : Int} {d : α} (h0 : 0 ≤ i) (h : ds[i.toNat]? = some d) : atD ds i = some d := by
  unfold atD
  have := (List.getElem?_eq_some_iff.mp h).1
  rw [ixD_nat h0 (by omega)]
  exact h
/-! ### the laws' own defs -/
def dSpin : Df := ⟨2, 5, (.cons (.ite (.cmp .gt (.idx (.var 0) (.cst (.int 0))) (.cst (.int 0))) (.cons (.asg (.nm 4) (.bin .mod (.blt .int (.cons (.idx (.var 0) (.cst (.int 0))) .nil)) (.var 1))) (.cons (.put (.var 0) (.cst (.int 0)) (.bin .div (.idx (.var 0) (.cst (.int 0))) (.var 1))) (.cons (.ret (.var 4)) .nil))) .nil) (.cons (.put (.var 0) (.cst (.int 2)) (.bin .add (.idx (.var 0) (.cst (.int 2))) (.cst (.int 1)))) (.cons (.asg (.nm 2) (.bin .mod (.blt .int (.cons (.bin .add (.idx (.var 0) (.cst (.int 1))) (.bin .mul (.cst (.int 32452843)) (.idx (.var 0) (.cst (.int 2))))) .nil)) (.cst (.int 2305843009213693951)))) (.cons (.asg (.nm 3) (.bin .add (.bin .mul (.bin .mod (.blt .int (.cons (.bin .add (.bin .mul (.var 2) (.var 2)) (.bin .mul (.cst (.int 109)) (.idx (.var 0) (.cst (.int 2))))) .nil)) (.cst (.int 2305843009213693921))) (.cst (.int 49979687))) (.var 2))) (.cons (.ret (.bin .mod (.blt .int (.cons (.bin .div (.var 3) (.cst (.int 65551))) .nil)) (.var 1))) .nil)))))⟩
def dAmong (f : Nat) : Df := ⟨2, 2, (.cons (.ret (.idx (.var 1) (.call f (.cons (.var 0) (.cons (.blt .len (.cons (.var 1) .nil)) .nil))))) .nil)⟩
theorem getSet {M : Ar} {p : Nat} {o : Ob} (h : p < M.length) : (M.set p o)[p]? = some o := by
  rw [List.getElem?_set_self h]
theorem sp_ix {M : Ar} {p : Nat} {s : Sp} {R : Rv → Prop} (h : M[p]? = some (spO s)) : (R (.d (.int s.1)) → optP (oIdx (.d (.ref p)) (.d (.int 0)) M) R) ∧ (R (.d (.int s.2.1)) → optP (oIdx (.d (.ref p)) (.d (.int 1)) M) R) ∧ (R (.d (.int s.2.2)) → optP (oIdx (.d (.ref p)) (.d (.int 2)) M) R) :=
  ⟨l_idxP h rfl, l_idxP h rfl, l_idxP h rfl⟩
theorem BIG_le : BIG ≤ 2 ^ 800000 := by unfold BIG; exact Nat.le_refl _
theorem BIG_ge : 2 ^ 800000 ≤ BIG := by unfold BIG; exact Nat.le_refl _
theorem spin_run {fuel : Nat} {T : Nat → Option Df} {k f : Nat} (hT : T f = some dSpin) {M : Ar} {p : Nat} {n : Nat} {t : Int} {s : Sp} (hs : SpOk n s) (hn : n + 1 ≤ BIG) (hM : M[p]? = some (spO s)) (ht : 0 < t) (hb : t.natAbs ≤ 2 ^ 8000) {R : Rv → Ar → Prop} {X : Nat → D → Ar → Prop}
    (q : ∀ (r : Int) (s' : Sp), 0 ≤ r → r < t → SpOk (n + 1) s' → R (.d (.int r)) (M.set p (spO s'))) : PH spNone fuel T (k + 1) f [.ref p, .int t] M R X := by
  obtain ⟨a, b, c⟩ := s
  obtain ⟨h1, h2, h3, h4, h5, h6⟩ := hs
  have hp : p < M.length := (List.getElem?_eq_some_iff.mp hM).1
  refine ph_b rfl hT rfl ?_
  show SSs _ _ dSpin.body [some (.ref p), some (.int t), none, none, none] M _ _
  unfold dSpin
  decreasing_tactic
  refine (sp_ix hM).1 ?_
  decreasing_tactic
  refine if_b (fun ha => ?_) (fun ha => ?_)
  · have ha := of_decide_eq_true ha
    decreasing_tactic
    refine (sp_ix hM).1 ?_
    decreasing_tactic
    refine l_mod ht ?_
    decreasing_tactic
    refine (sp_ix hM).1 ?_
    decreasing_tactic
    refine l_div ht hb (by decide) ?_
    decreasing_tactic
    refine pu_at hM (j := 0) rfl ?_
    decreasing_tactic
    refine q _ (a / t, b, c) (Int.emod_nonneg _ (by omega)) (Int.emod_lt_of_pos _ ht) ⟨Int.ediv_nonneg h1 (by omega), ?_, h3, h4, h5, by simp at *; omega⟩
    unfold Bn at *
    have : a / t ≤ a := Int.ediv_le_self _ h1
    have : 0 ≤ a / t := Int.ediv_nonneg h1 (by omega)
    simp only at *
    omega
  · have hc : Bn 800000 (c + 1) := by
      unfold Bn
      have := BIG_le
      simp only at h5 h6
      have e : (c + 1).natAbs = c.natAbs + 1 := by omega
      have : c.natAbs ≤ n := by omega
      rw [e]
      exact Nat.le_trans (by omega) BIG_le
    have hM' : (M.set p (spO (a, b, c + 1)))[p]? = some (spO (a, b, c + 1)) := getSet hp
    decreasing_tactic
    refine (sp_ix hM).2.2 ?_
    decreasing_tactic
    refine pu_at hM (j := 2) rfl ?_
    show nxt _ (M.set p (spO (a, b, c + 1))) _ _
    have m1 : mulOk 32452843 (c + 1) = true := mulOk_of (m := 30) (by unfold Bn; decide) hc (by decide)
    have m2 : mulOk 109 (c + 1) = true := mulOk_of (m := 30) (by unfold Bn; decide) hc (by decide)
    decreasing_tactic
    refine (sp_ix hM').2.1 ?_
    decreasing_tactic
    refine (sp_ix hM').2.2 ?_
    decreasing_tactic
    refine l_mul m1 ?_
    decreasing_tactic
    refine l_mod (by decide) ?_
    decreasing_tactic
    generalize hone : (b + 32452843 * (c + 1)) % 2305843009213693951 = one
    have ho1 : 0 ≤ one := by rw [← hone]; exact Int.emod_nonneg _ (by decide)
    have ho2 : one < 2305843009213693951 := by rw [← hone]; exact Int.emod_lt_of_pos _ (by decide)
    have hob : Bn 70 one := Bn.lt ho1 ho2 (by decide)
    refine l_mul (mulOk_of hob hob (by decide)) ?_
    decreasing_tactic
    refine (sp_ix hM').2.2 ?_
    decreasing_tactic
    refine l_mul m2 ?_
    decreasing_tactic
    refine l_mod (by decide) ?_
    generalize htw : (one * one + 109 * (c + 1)) % 2305843009213693921 = tw
    have ht1 : 0 ≤ tw := by rw [← htw]; exact Int.emod_nonneg _ (by decide)
    have ht2 : tw < 2305843009213693921 := by rw [← htw]; exact Int.emod_lt_of_pos _ (by decide)
    decreasing_tactic
    refine l_mul (mulOk_of (Bn.lt (n := 70) ht1 ht2 (by decide)) (n := 30) (by unfold Bn; decide) (by decide)) ?_
    decreasing_tactic
    refine l_div (by decide) (n := 30) (by unfold Bn; decide) (by decide) ?_
    decreasing_tactic
    refine l_mod ht ?_
    decreasing_tactic
    refine q _ (a, b, c + 1) (Int.emod_nonneg _ (by omega)) (Int.emod_lt_of_pos _ ht) ⟨h1, h2, h3, h4, by simp at *; omega, by simp at *; omega⟩
end Q
end

section
set_option Elab.async false
set_option linter.all false
set_option maxRecDepth 100000
/-! From the law's draws to any draws. -/
namespace Q
local macro_rules | `(tactic| array_get_dec) => `(tactic| simp only [List.map_cons, List.map_nil, List.length_cons, List.length_nil, List.cons_append, List.nil_append, List.append_nil, Nat.reduceAdd, Nat.reduceSub, Nat.zero_add, Nat.sub_self, List.replicate_zero, List.replicate_succ, List.reduceReplicate, valR_d, valR_l, valR_m])
local macro_rules | `(tactic| decreasing_trivial) => `(tactic| (repeat (first | (first | refine e_var ?_ | refine g_s ?_ | refine g_0 ?_ | refine e_cst ?_ | refine a_cons PHm ?_ | refine r_cons PHm ?_ | refine a_nil PHm ?_ | refine r_nil PHm ?_ | refine e_cmp PHm ?_ | refine e_bin PHm ?_ | refine e_call PHm ?_ | refine e_blt PHm ?_ | refine e_idx PHm ?_ | refine e_op1 PHm ?_ | refine e_op2 PHm ?_ | refine b_bl ?_ | refine e_tup PHm ?_ | refine e_lst PHm ?_ | refine s_asg PHm ?_ | refine k_nm ?_ | refine n_nx ?_ | refine s_ret PHm ?_ | refine s_ite PHm ?_ | refine f_rt ?_ | refine n_rt ?_ | refine if_t ?_ | refine if_f ?_ | refine tq_self ?_ | refine e_and PHm ?_ | refine e_or PHm ?_ | refine e_nt PHm ?_ | refine e_ite PHm ?_ | refine e_isin PHm ?_ | refine e_comp PHm ?_ | refine e_slcA PHm rfl ?_ | refine e_slcB PHm rfl ?_ | refine e_slc PHm rfl rfl ?_ | refine i_int ?_ | refine e_chain PHm ?_ | refine e_neg PHm ?_ | refine e_meth PHm ?_ | refine e_dict0 PHm ?_ | refine a_star PHm ?_ | refine a_plc PHm ?_ | refine w_seq PHm ?_ | refine w_rng PHm ?_ | refine w_zip PHm ?_ | refine w_enum PHm ?_ | refine ss_nil PHm ?_ | refine s_asgP PHm ?_ | refine s_par PHm ?_ | refine s_put PHm ?_ | refine s_expr PHm ?_ | refine s_retN PHm ?_ | refine s_for PHm ?_ | refine s_pass PHm ?_ | refine s_brk PHm ?_ | refine s_cont PHm ?_ | refine n_bk ?_ | refine n_ct ?_ | refine f_nx ?_ | refine fk_nx ?_ | refine fk_ct ?_ | refine fk_bk ?_ | refine fk_rt ?_ | refine p_l ?_ | refine p_d ?_ | refine p_m ?_ | refine k_cons ?_ | refine k_nil ?_ | refine k_tp ?_ | refine k_scons ?_ | refine k_snil ?_ | refine t_turn PHm ?_) | (first | refine l_add ?_ | refine l_sub ?_ | refine l_lt ?_ | refine l_le ?_ | refine l_gt ?_ | refine l_ge ?_ | refine l_eq ?_ | refine l_ne ?_ | refine l_is ?_ | refine l_isn ?_ | refine l_int ?_ | refine l_intb ?_ | refine l_abs ?_ | refine l_max ?_ | refine l_min ?_ | refine l_gcd ?_ | refine l_lenT ?_ | refine l_lenV ?_ | refine l_lenL ?_ | refine l_lenR ?_ | refine l_tupL ?_ | refine l_tupV ?_ | refine l_tupT ?_ | refine l_lstL ?_ | refine l_lstV ?_ | refine l_lstT ?_ | refine l_slcT ?_ | refine l_slcV ?_ | refine l_slcL ?_ | refine l_itT ?_ | refine l_itV ?_ | refine l_itL ?_ | refine l_zipT ?_ | refine l_zipVV ?_ | refine l_zipLL ?_ | refine l_zipVL ?_ | refine l_zipLV ?_ | refine l_zipTV ?_ | refine l_zipTL ?_ | refine l_zipVT ?_ | refine l_zipLT ?_ | refine l_enL ?_ | refine l_enV ?_ | refine l_eqL ?_ | refine l_eqV ?_ | refine l_neBB ?_ | refine few (Nat.le_of_ble_eq_true rfl) ?_ | refine l_addLL (Nat.le_of_ble_eq_true rfl) ?_ | refine l_addVL (Nat.le_of_ble_eq_true rfl) ?_ | refine l_addLV (Nat.le_of_ble_eq_true rfl) ?_ | refine l_addVV (Nat.le_of_ble_eq_true rfl) ?_)); try simp only [List.set_cons_succ, List.set_cons_zero, valR_d, valR_l, valR_m, wipe]))
local macro_rules | `(tactic| decreasing_tactic) => `(tactic| (repeat (first | (first | (first | refine e_var ?_ | refine g_s ?_ | refine g_0 ?_ | refine e_cst ?_ | refine a_cons PHm ?_ | refine r_cons PHm ?_ | refine a_nil PHm ?_ | refine r_nil PHm ?_ | refine e_cmp PHm ?_ | refine e_bin PHm ?_ | refine e_call PHm ?_ | refine e_blt PHm ?_ | refine e_idx PHm ?_ | refine e_op1 PHm ?_ | refine e_op2 PHm ?_ | refine b_bl ?_ | refine e_tup PHm ?_ | refine e_lst PHm ?_ | refine s_asg PHm ?_ | refine k_nm ?_ | refine n_nx ?_ | refine s_ret PHm ?_ | refine s_ite PHm ?_ | refine f_rt ?_ | refine n_rt ?_ | refine if_t ?_ | refine if_f ?_ | refine tq_self ?_ | refine e_and PHm ?_ | refine e_or PHm ?_ | refine e_nt PHm ?_ | refine e_ite PHm ?_ | refine e_isin PHm ?_ | refine e_comp PHm ?_ | refine e_slcA PHm rfl ?_ | refine e_slcB PHm rfl ?_ | refine e_slc PHm rfl rfl ?_ | refine i_int ?_ | refine e_chain PHm ?_ | refine e_neg PHm ?_ | refine e_meth PHm ?_ | refine e_dict0 PHm ?_ | refine a_star PHm ?_ | refine a_plc PHm ?_ | refine w_seq PHm ?_ | refine w_rng PHm ?_ | refine w_zip PHm ?_ | refine w_enum PHm ?_ | refine ss_nil PHm ?_ | refine s_asgP PHm ?_ | refine s_par PHm ?_ | refine s_put PHm ?_ | refine s_expr PHm ?_ | refine s_retN PHm ?_ | refine s_for PHm ?_ | refine s_pass PHm ?_ | refine s_brk PHm ?_ | refine s_cont PHm ?_ | refine n_bk ?_ | refine n_ct ?_ | refine f_nx ?_ | refine fk_nx ?_ | refine fk_ct ?_ | refine fk_bk ?_ | refine fk_rt ?_ | refine p_l ?_ | refine p_d ?_ | refine p_m ?_ | refine k_cons ?_ | refine k_nil ?_ | refine k_tp ?_ | refine k_scons ?_ | refine k_snil ?_ | refine t_turn PHm ?_) | refine ss_cons PHm ?_) | (first | refine l_add ?_ | refine l_sub ?_ | refine l_lt ?_ | refine l_le ?_ | refine l_gt ?_ | refine l_ge ?_ | refine l_eq ?_ | refine l_ne ?_ | refine l_is ?_ | refine l_isn ?_ | refine l_int ?_ | refine l_intb ?_ | refine l_abs ?_ | refine l_max ?_ | refine l_min ?_ | refine l_gcd ?_ | refine l_lenT ?_ | refine l_lenV ?_ | refine l_lenL ?_ | refine l_lenR ?_ | refine l_tupL ?_ | refine l_tupV ?_ | refine l_tupT ?_ | refine l_lstL ?_ | refine l_lstV ?_ | refine l_lstT ?_ | refine l_slcT ?_ | refine l_slcV ?_ | refine l_slcL ?_ | refine l_itT ?_ | refine l_itV ?_ | refine l_itL ?_ | refine l_zipT ?_ | refine l_zipVV ?_ | refine l_zipLL ?_ | refine l_zipVL ?_ | refine l_zipLV ?_ | refine l_zipTV ?_ | refine l_zipTL ?_ | refine l_zipVT ?_ | refine l_zipLT ?_ | refine l_enL ?_ | refine l_enV ?_ | refine l_eqL ?_ | refine l_eqV ?_ | refine l_neBB ?_ | refine few (Nat.le_of_ble_eq_true rfl) ?_ | refine l_addLL (Nat.le_of_ble_eq_true rfl) ?_ | refine l_addVL (Nat.le_of_ble_eq_true rfl) ?_ | refine l_addLV (Nat.le_of_ble_eq_true rfl) ?_ | refine l_addVV (Nat.le_of_ble_eq_true rfl) ?_)); try simp only [List.set_cons_succ, List.set_cons_zero, valR_d, valR_l, valR_m, wipe]))
theorem spn_ix {M : Ar} {p : Nat} (h : M[p]? = some .spn) : index (.d (.ref p)) (.d (.int 0)) M = none := by
  show (match (asS M (.d (.ref p))).bind (atD · 0) with | some d => some (Rv.d d) | none => none) = none
  have e : asS M (.d (.ref p)) = none := by
    show (match M[p]? with | some (.lst ds) => some ds | _ => none) = none
    rw [h]
  rw [e]; rfl
/-- a draw where nothing is known of what is drawn from does not run -/
theorem spin_stuck {fuel : Nat} {T : Nat → Option Df} {k f : Nat} (hT : T f = some dSpin) {M : Ar} {p : Nat} {t : Int} (h : M[p]? = some .spn) : Phi fuel T (k + 1) f [.ref p, .int t] M = .stuck := by
  show (match T f with
    | some d => runBody (Phi fuel T k) fuel d [.ref p, .int t]
    | none => stk) M = .stuck
  rw [hT]
  have e : sem (Phi fuel T k) (.idx (.var 0) (.cst (.int 0))) [some (.ref p), some (.int t), none, none, none] M = .stuck := by
    simp [sem, bnd, getV, ret, opt, spn_ix h]
  have e2 : semB (Phi fuel T k) (.cmp .gt (.idx (.var 0) (.cst (.int 0))) (.cst (.int 0))) [some (.ref p), some (.int t), none, none, none] M = .stuck := by
    show bnd (bnd (sem (Phi fuel T k) (.idx (.var 0) (.cst (.int 0))) [some (.ref p), some (.int t), none, none, none]) _) asB M = .stuck
    unfold bnd
    rw [e]
  show bnd (bnd (bnd (semB (Phi fuel T k) (.cmp .gt (.idx (.var 0) (.cst (.int 0))) (.cst (.int 0))) [some (.ref p), some (.int t), none, none, none]) _) _) retF M = .stuck
  generalize semB (Phi fuel T k) (.cmp .gt (.idx (.var 0) (.cst (.int 0))) (.cst (.int 0))) [some (.ref p), some (.int t), none, none, none] = g at e2 ⊢
  unfold bnd
  rw [e2]
section
variable {fuel : Nat} {dfs : List Df} {k f fs p : Nat} {args : List D} {M : Ar} {R : Rv → Ar → Prop} {X : Nat → D → Ar → Prop}
/-- a call that is reckoned outright, among draws -/
theorem ph_runS {r : Rv} {M' : Ar} (hT : dfs[fs]? = some dSpin) (e : Phi fuel (fun i => dfs[i]?) k f args M = .ok r M') (h : R r M') : PH (spSpin fs p) fuel (fun i => dfs[i]?) k f args M R X := by
  rw [PH_eq]
  refine Clo.phi cloD (sp := spSpin fs p) (fun k f g args body hg hb => ?_) k f args M R X ?_
  · unfold spSpin at hg
    split at hg
    · rename_i hf
      cases hg
      subst hf
      intro M R X q
      unfold spinN
      split
      · rename_i q' t
        by_cases c : q' = p ∧ isSpn M[p]? = true
        · exfalso
          obtain ⟨rfl, c⟩ := c
          rw [spin_stuck (T := fun i => dfs[i]?) hT (isSpn_iff.mp c)] at q
          exact q
        · rw [if_neg c]
          exact hb M R X q
      · exact hb M R X q
    · cases hg
  · rw [e]; exact h
theorem ph_runN {r : Rv} {M' : Ar} (e : Phi fuel (fun i => dfs[i]?) k f args M = .ok r M') (h : R r M') : PH spNone fuel (fun i => dfs[i]?) k f args M R X := ph_run (fun _ => rfl) e h
/-- what holds runs outright -/
theorem ph_out (h : PH spNone fuel (fun i => dfs[i]?) k f args M R fun _ _ _ => False) : ∃ r M', Phi fuel (fun i => dfs[i]?) k f args M = .ok r M' ∧ R r M' := by
  rw [PH_eq] at h
  have := Clo.phi cloR (sp := spNone) (fun k f g args body hg _ => by cases hg) k f args M R _ h
  cases e : Phi fuel (fun i => dfs[i]?) k f args M with
  | ok r M' => rw [e] at this; exact ⟨r, M', rfl, this⟩
  | exc c d M' => rw [e] at this; exact this.elim
  | stuck => rw [e] at this; exact this.elim
/-- what holds for all draws holds for those of the law -/
theorem ph_drawn {n : Nat} {s : Sp} (hT : dfs[fs]? = some dSpin) (hM : M[p]? = some .spn) (hs : SpOk n s) (hn : n + cPhi fuel dfs k ≤ BIG) (h : PH (spSpin fs p) fuel (fun i => dfs[i]?) k f args M R fun _ _ _ => False)
    {R' : Rv → Ar → Prop} (q : ∀ r M' s', M'[p]? = some .spn → SpOk (n + cPhi fuel dfs k) s' → R r M' → R' r (M'.set p (spO s'))) : PH spNone fuel (fun i => dfs[i]?) k f args (M.set p (spO s)) R' X := by
  rw [PH_eq] at h
  have := Clo.phi (cloA p) (sp := spSpin fs p) (fun k f g args body hg hb => by
    unfold spSpin at hg
    split at hg
    · rename_i hf
      cases hg
      subst hf
      intro M n s R X hM hs hn z
      unfold spinN at z
      split at z
      · rename_i q' t
        by_cases c : q' = p ∧ isSpn M[p]? = true
        · rw [if_pos c] at z
          obtain ⟨h0, h1, z⟩ := z
          obtain ⟨rfl, _⟩ := c
          have hp := (List.getElem?_eq_some_iff.mp hM).1
          have hc : 1 ≤ cPhi fuel dfs (k + 1) := fold_one dfs
          obtain ⟨r, M', e, r0, s', h2, h3, h4, rfl, rfl⟩ := ph_out (dfs := dfs) (fuel := fuel) (k := k + 1) (f := f) (R := fun v M' => ∃ (r : Int) (s' : Sp), 0 ≤ r ∧ r < t ∧ SpOk (n + 1) s' ∧ v = .d (.int r) ∧ M' = M.set q' (spO s')) (spin_run (T := fun i => dfs[i]?) hT hs (by omega) (getSet hp) h0 h1 fun r s' a b c => ⟨r, s', a, b, c, rfl, by rw [List.set_set]⟩)
          rw [e]
          exact ⟨M, s', rfl, hM, h4.mono (by omega), z r0 h2 h3⟩
        · rw [if_neg c] at z
          exact hb M n s R X hM hs hn z
      · exact hb M n s R X hM hs hn z
    · cases hg) k f args M n s R _ hM hs hn h
  cases e : Phi fuel (fun i => dfs[i]?) k f args (M.set p (spO s)) with
  | ok r M' =>
    rw [e] at this
    obtain ⟨M'', s', rfl, g2, g3, g4⟩ := this
    exact ph_runN e (q r M'' s' g2 g3 g4)
  | exc c d M' => rw [e] at this; obtain ⟨_, _, _, _, _, z⟩ := this; exact z.elim
  | stuck => rw [e] at this; exact this.elim
end
/-! ### drawing one of some items -/
section
variable {fuel : Nat} {T : Nat → Option Df} {k fs fa p : Nat} {M : Ar} {R : Rv → Ar → Prop} {X : Nat → D → Ar → Prop} {items : List D}
theorem among_run (hA : T fa = some (dAmong fs)) (hf : fa ≠ fs) (hM : M[p]? = some .spn) (hne : 0 < items.length) (hl : items.length ≤ line) (q : ∀ d, d ∈ items → R (.d d) M) : PH (spSpin fs p) fuel T (k + 2) fa [.ref p, .vl items] M R X := by
  refine ph_b (if_neg hf) hA rfl ?_
  show SSs _ _ (dAmong fs).body [some (.ref p), some (.vl items)] M _ _
  unfold dAmong
  decreasing_tactic
  refine ph_spin hM (by omega) ?_ fun r h0 h1 => ?_
  · have : items.length ≤ 1000000 := hl
    exact Nat.le_trans (m := 2 ^ 20) (by omega) (Nat.pow_le_pow_right (by decide) (by decide))
  decreasing_tactic
  obtain ⟨d, hd⟩ : ∃ d, items[r.toNat]? = some d := by
    have : r.toNat < items.length := by omega
    exact ⟨_, List.getElem?_eq_getElem this⟩
  refine l_idxV (atD_nat h0 hd) ?_
  decreasing_tactic
  exact q d (List.mem_of_getElem? hd)
end
/-! ### what is drawn from -/
def dSpins : Df := ⟨2, 4, (.cons (.asg (.nm 2) (.ite (.cmp .lt (.var 1) (.blt .len (.cons (.var 0) .nil))) (.blt .int (.cons (.idx (.var 0) (.var 1)) .nil)) (.bin .add (.bin .mul (.cst (.int 223)) (.var 1)) (.cst (.int 71))))) (.cons (.asg (.nm 3) (.bin .mod (.blt .int (.cons (.blt .abs (.cons (.var 2) .nil)) .nil)) (.bin .pow (.bin .pow (.cst (.int 10)) (.cst (.int 51))) (.cst (.int 6))))) (.cons (.ret (.lst (.cons (.blt .max (.cons (.cst (.int 0)) (.cons (.bin .sub (.var 3) (.bin .pow (.cst (.int 10)) (.cst (.int 16)))) .nil))) (.cons (.bin .add (.bin .add (.bin .add (.bin .mul (.bin .mod (.blt .int (.cons (.var 3) .nil)) (.cst (.int 2305843009213693907))) (.cst (.int 67))) (.bin .mul (.cst (.int 941)) (.var 1))) (.bin .mul (.cst (.int 43)) (.blt .int (.cons (.cmp .lt (.var 2) (.cst (.int 0))) .nil)))) (.cst (.int 17))) (.cons (.cst (.int 0)) .nil))))) .nil)))⟩
theorem spins_run {sp : Spec} [MonoC sp] {fuel : Nat} {T : Nat → Option Df} {k f : Nat} (hs : sp f = none) (hT : T f = some dSpins) {M : Ar} {ns : List Int} {j : Nat} (hj : j < 100) {R : Rv → Ar → Prop} {X : Nat → D → Ar → Prop} (q : ∀ s : Sp, SpOk 0 s → R (.l [.int s.1, .int s.2.1, .int s.2.2]) M) :
    PH sp fuel T (k + 1) f [.rl (ns.map D.int), .int (j : Nat)] M R X := by
  refine ph_b hs hT rfl ?_
  show SSs _ _ dSpins.body [some (.rl (ns.map D.int)), some (.int (j : Nat)), none, none] M _ _
  unfold dSpins
  have p1 : (10 : Int) ^ (51 : Int).toNat = 10 ^ 51 := by decide +kernel
  have p2 : ((10 : Int) ^ 51) ^ (6 : Int).toNat = 10 ^ 306 := by decide +kernel
  have p3 : (10 : Int) ^ (16 : Int).toNat = 10 ^ 16 := by decide +kernel
  have key : ∀ cell : Int, SSs (PH sp fuel T k) fuel (.cons (.asg (.nm 3) (.bin .mod (.blt .int (.cons (.blt .abs (.cons (.var 2) .nil)) .nil)) (.bin .pow (.bin .pow (.cst (.int 10)) (.cst (.int 51))) (.cst (.int 6))))) (.cons (.ret (.lst (.cons (.blt .max (.cons (.cst (.int 0)) (.cons (.bin .sub (.var 3) (.bin .pow (.cst (.int 10)) (.cst (.int 16)))) .nil))) (.cons (.bin .add (.bin .add (.bin .add (.bin .mul (.bin .mod (.blt .int (.cons (.var 3) .nil)) (.cst (.int 2305843009213693907))) (.cst (.int 67))) (.bin .mul (.cst (.int 941)) (.var 1))) (.bin .mul (.cst (.int 43)) (.blt .int (.cons (.cmp .lt (.var 2) (.cst (.int 0))) .nil)))) (.cst (.int 17))) (.cons (.cst (.int 0)) .nil))))) .nil)) [some (.rl (ns.map D.int)), some (.int (j : Nat)), some (.int cell), none] M (fun fl M1 => finR fl fun r => R r M1) X := by
    intro cell
    decreasing_tactic
    refine l_pow (by decide +kernel) ?_
    rw [p1]
    decreasing_tactic
    refine l_pow (by decide +kernel) ?_
    rw [p2]
    refine l_mod (by decide +kernel) ?_
    decreasing_tactic
    generalize hg : (if cell < 0 then -cell else cell) % 10 ^ 306 = g
    have g0 : 0 ≤ g := by rw [← hg]; exact Int.emod_nonneg _ (by decide +kernel)
    have g1 : g < 10 ^ 306 := by rw [← hg]; exact Int.emod_lt_of_pos _ (by decide +kernel)
    refine l_pow (by decide +kernel) ?_
    rw [p3]
    decreasing_tactic
    refine l_mod (by decide) ?_
    generalize hw : g % 2305843009213693907 = w
    have w0 : 0 ≤ w := by rw [← hw]; exact Int.emod_nonneg _ (by decide)
    have w1 : w < 2305843009213693907 := by rw [← hw]; exact Int.emod_lt_of_pos _ (by decide)
    decreasing_tactic
    refine l_mul (mulOk_of (m := 70) (Bn.lt w0 w1 (by decide)) (n := 30) (by unfold Bn; decide) (by decide)) ?_
    decreasing_tactic
    refine l_mul (mulOk_of (m := 30) (by unfold Bn; decide) (n := 30) (Bn.lt (b := 100) (by omega) (by omega) (by decide)) (by decide)) ?_
    decreasing_tactic
    have b0 : 0 ≤ b2i (decide (cell < 0)) ∧ b2i (decide (cell < 0)) ≤ 1 := by unfold b2i; split <;> simp
    generalize b2i (decide (cell < 0)) = bb at b0
    refine l_mul (mulOk_of (m := 30) (by unfold Bn; decide) (n := 30) (Bn.lt (b := 2) (by omega) (by omega) (by decide)) (by decide)) ?_
    decreasing_tactic
    refine q (_, _, 0) ⟨?_, ?_, ?_, ?_, ?_, ?_⟩
    · show 0 ≤ (if g - 10 ^ 16 > 0 then g - 10 ^ 16 else 0)
      split <;> omega
    · show Bn 1100 (if g - 10 ^ 16 > 0 then g - 10 ^ 16 else 0)
      have : (10 : Int) ^ 306 ≤ ((2 ^ 1100 : Nat) : Int) := by decide +kernel
      have e16 : (0 : Int) ≤ 10 ^ 16 := by decide
      unfold Bn
      generalize (10 : Int) ^ 306 = P at *
      generalize (10 : Int) ^ 16 = Q at *
      generalize (2 : Nat) ^ 1100 = B at *
      split <;> omega
    · show 0 ≤ w * 67 + 941 * (j : Nat) + 43 * bb + 17
      omega
    · show Bn 90 (w * 67 + 941 * (j : Nat) + 43 * bb + 17)
      exact Bn.lt (b := 2 ^ 80) (by omega) (by omega) (by decide +kernel)
    · exact Int.le_refl 0
    · exact Int.le_refl 0
  refine ss_cons PHm (SS.to PHm (R := fun fl M1 => ∃ cell : Int, fl = .nx [some (.rl (ns.map D.int)), some (.int (j : Nat)), some (.int cell), none] ∧ M1 = M) ?_ ?_)
  · decreasing_tactic
    rw [List.length_map]
    refine if_b (fun h => ?_) (fun h => ?_)
    · have h := of_decide_eq_true h
      decreasing_tactic
      have hlt : j < ns.length := by omega
      refine l_idxR (d := .int ns[j]) (atD_nat (by omega) (by simp [hlt])) ?_
      decreasing_tactic
      exact ⟨_, rfl, by first | rfl | trivial⟩
    · decreasing_tactic
      refine l_mul (mulOk_of (m := 30) (by unfold Bn; decide) (n := 30) (Bn.lt (b := 100) (by omega) (by omega) (by decide)) (by decide)) ?_
      decreasing_tactic
      exact ⟨_, rfl, by first | rfl | trivial⟩
  · rintro fl M1 ⟨cell, rfl, rfl⟩
    exact n_nx (key cell)
end Q
end

section
set_option Elab.async false
set_option linter.all false
set_option maxRecDepth 100000
namespace Q
/-! values of all kinds -/
section
variable {M : Ar} {R : Rv → Prop} {B : Bool → Prop}
abbrev S60 : Int := 1000000000000000000000000000000000000000000000000000000000000
def intD : D → Bool
  | .int _ => true
  | _ => false
def blD : D → Bool
  | .bl _ => true
  | _ => false
def tupD : D → Bool
  | .tup _ => true
  | _ => false
def shortD : D → Bool
  | .int i => decide (-S60 < i) && decide (i < S60)
  | _ => false
def formD (m : Int) : D → Bool
  | .tup ds => decide ((ds.length : Int) = m + 1) && ds.all shortD
  | _ => false
def rowsD (m : Int) : D → Bool
  | .tup ds => decide ((ds.length : Int) ≤ 40) && ds.all (formD m)
  | _ => false
theorem y_int {d : D} (h : Pur d) (q : B (intD d || blD d)) : optP (oIsin M (.d d) [.int]) B := by
  rw [oIsin_eq]
  cases d with
  | ref n => exact absurd h (by simp [Pur, D.refsLt, Nat.blt])
  | _ => exact o_some q
theorem y_bool {d : D} (h : Pur d) (q : B (blD d)) : optP (oIsin M (.d d) [.bool]) B := by
  rw [oIsin_eq]
  cases d with
  | ref n => exact absurd h (by simp [Pur, D.refsLt, Nat.blt])
  | _ => exact o_some q
theorem y_tup {d : D} (h : Pur d) (q : B (tupD d)) : optP (oIsin M (.d d) [.tuple]) B := by
  rw [oIsin_eq]
  cases d with
  | ref n => exact absurd h (by simp [Pur, D.refsLt, Nat.blt])
  | _ => exact o_some q
theorem l_cmp {o : Cop} {x y : Rv} {b : Bool} (e : cmpop o x y M = some b) (q : B b) : optP (oCmp o x y M) B := by rw [oCmp_eq]; exact o_eq e q
theorem boolsD_map : ∀ bs : List Bool, boolsD (bs.map D.bl) = some bs
  | [] => rfl
  | b :: bs => by
    show (match boolsD (bs.map D.bl) with | some r => some (b :: r) | none => none) = _
    rw [boolsD_map bs]
theorem intsD_map : ∀ bs : List Int, intsD (bs.map D.int) = some bs
  | [] => rfl
  | b :: bs => by
    show (match intsD (bs.map D.int) with | some r => some (b :: r) | none => none) = _
    rw [intsD_map bs]
theorem l_all {ds : List D} {f : D → Bool} (q : R (.d (.bl (ds.all f)))) : optP (oBlt .all [.l (ds.map fun d => .bl (f d))] M) R := by
  rw [oBlt_eq]
  refine o_eq ?_ q
  show ((some (ds.map fun d => D.bl (f d))).bind boolsD).map (fun bs => Rv.d (.bl (bs.all id))) = _
  have e : (ds.map fun d => D.bl (f d)) = (ds.map f).map D.bl := by rw [List.map_map]; rfl
  rw [Option.bind_some, e, boolsD_map]
  simp [List.all_map, Function.comp_def]
theorem l_any {ds : List D} {f : D → Bool} (q : R (.d (.bl (ds.any f)))) : optP (oBlt .any [.l (ds.map fun d => .bl (f d))] M) R := by
  rw [oBlt_eq]
  refine o_eq ?_ q
  show ((some (ds.map fun d => D.bl (f d))).bind boolsD).map (fun bs => Rv.d (.bl (bs.any id))) = _
  have e : (ds.map fun d => D.bl (f d)) = (ds.map f).map D.bl := by rw [List.map_map]; rfl
  rw [Option.bind_some, e, boolsD_map]
  simp [List.any_map, Function.comp_def]
theorem l_sum {is : List Int} (q : R (.d (.int is.sum))) : optP (oBlt .sum [.l (is.map D.int)] M) R := by
  rw [oBlt_eq]
  refine o_eq ?_ q
  show ((some (is.map D.int)).bind intsD).map (fun bs => Rv.d (.int bs.sum)) = _
  rw [Option.bind_some, intsD_map]; rfl
end
/-- a row of whole numbers -/
abbrev dI (is : List Int) : D := .tup (is.map D.int)
theorem pure_int {is : List Int} : Purs (is.map D.int) := Purs.of fun d hd => by
  obtain ⟨i, _, rfl⟩ := List.mem_map.mp hd
  rfl
theorem pure_dI {is : List Int} : Pur (dI is) := pure_int (is := is)
theorem mem_all {α : Type} {f : α → Bool} {items : List α} {d : α} (h : items.all f = true) (hd : d ∈ items) : f d = true := List.all_eq_true.mp h d hd
/-- rows of whole numbers by their facts -/
theorem ints_of {C : Int → Prop} : ∀ {ys : List D}, (∀ (i : Nat) (y : D), ys[i]? = some y → ∃ j, y = D.int j ∧ C j) → ∃ is : List Int, ys = is.map D.int ∧ is.length = ys.length ∧ ∀ j ∈ is, C j
  | [], _ => ⟨[], rfl, rfl, by simp⟩
  | y :: ys, h => by
    obtain ⟨j, rfl, hj⟩ := h 0 y rfl
    obtain ⟨is, rfl, hl, hc⟩ := ints_of (ys := ys) fun i y hy => h (i + 1) y (by simpa using hy)
    exact ⟨j :: is, rfl, by simp, fun x hx => by
      rcases List.mem_cons.mp hx with rfl | hx
      · exact hj
      · exact hc x hx⟩
theorem rng_len {lo : Int} {n : Nat} : (rangeL lo n).length = n := by
  induction n generalizing lo with
  | zero => rfl
  | succ n ih => show (rangeL (lo + 1) n).length + 1 = n + 1; rw [ih]
theorem rng_get : ∀ {n : Nat} {lo : Int} {i : Nat} {d : D}, (rangeL lo n)[i]? = some d → d = D.int (lo + (i : Nat)) ∧ i < n
  | 0, _, _, _, h => by simp [rangeL] at h
  | n + 1, lo, 0, d, h => by simp [rangeL] at h; exact ⟨by rw [← h]; simp, by omega⟩
  | n + 1, lo, i + 1, d, h => by
    obtain ⟨h1, h2⟩ := rng_get (n := n) (lo := lo + 1) (i := i) (d := d) (by simpa [rangeL] using h)
    exact ⟨by rw [h1]; congr 1; omega, by omega⟩
theorem small_of {i : Int} (h0 : -(2 ^ 62) ≤ i) (h1 : i < 2 ^ 62) : small62 i = true := by
  unfold small62
  rw [Bool.and_eq_true]
  exact ⟨decide_eq_true h0, decide_eq_true h1⟩
theorem zip_ints : ∀ is js : List Int, zipD (is.map D.int) (js.map D.int) = (is.zip js).map fun p => D.tup [.int p.1, .int p.2]
  | [], _ => rfl
  | _ :: _, [] => rfl
  | i :: is, j :: js => congrArg _ (zip_ints is js)
def dot (is js : List Int) : Int := ((is.zip js).map fun p => p.1 * p.2).sum
theorem dot_cons (x y : Int) (xs ys : List Int) : dot (x :: xs) (y :: ys) = x * y + dot xs ys := by simp [dot]
theorem dot_b {a b : Int} (ha : 0 ≤ a) (hb : 0 ≤ b) : ∀ (is js : List Int), (∀ i ∈ is, -a ≤ i ∧ i ≤ a) → (∀ j ∈ js, -b ≤ j ∧ j ≤ b) → -(a * b * is.length) ≤ dot is js ∧ dot is js ≤ a * b * is.length
  | [], js, _, _ => by simp [dot]
  | i :: is, [], _, _ => by
    have : 0 ≤ a * b := Int.mul_nonneg ha hb
    have : 0 ≤ a * b * ((i :: is).length : Int) := Int.mul_nonneg this (by omega)
    simp only [dot, List.zip_nil_right, List.map_nil, List.sum_nil]
    omega
  | i :: is, j :: js, h1, h2 => by
    have ih := dot_b ha hb is js (fun x hx => h1 x (List.mem_cons_of_mem _ hx)) (fun x hx => h2 x (List.mem_cons_of_mem _ hx))
    have hi := h1 i (List.mem_cons_self ..)
    have hj := h2 j (List.mem_cons_self ..)
    have q : (i * j).natAbs ≤ (a * b).natAbs := by
      rw [Int.natAbs_mul, Int.natAbs_mul]
      exact Nat.mul_le_mul (by omega) (by omega)
    have hab : 0 ≤ a * b := Int.mul_nonneg ha hb
    rw [dot_cons, List.length_cons]
    have e : a * b * ((is.length + 1 : Nat) : Int) = a * b * (is.length : Int) + a * b := by
      rw [Int.natCast_add, Int.mul_add]; simp
    rw [e]
    generalize a * b = ab at *
    generalize i * j = ij at *
    generalize ab * (is.length : Int) = w at *
    omega
theorem Bn.both {a : Nat} {i : Int} (h : Bn a i) : -((2 ^ a : Nat) : Int) ≤ i ∧ i ≤ ((2 ^ a : Nat) : Int) := by
  unfold Bn at h
  generalize 2 ^ a = A at *
  omega
theorem dot_Bn {a b n : Nat} {is js : List Int} (h1 : ∀ i ∈ is, Bn a i) (h2 : ∀ j ∈ js, Bn b j) (hl : is.length ≤ 2 ^ n) : Bn (a + b + n) (dot is js) := by
  have := dot_b (a := ((2 ^ a : Nat) : Int)) (b := ((2 ^ b : Nat) : Int)) (Int.natCast_nonneg _) (Int.natCast_nonneg _) is js (fun i hi => Bn.both (h1 i hi)) (fun i hi => Bn.both (h2 i hi))
  have e : ((2 ^ a : Nat) : Int) * ((2 ^ b : Nat) : Int) * (is.length : Int) ≤ ((2 ^ (a + b + n) : Nat) : Int) := by
    rw [Nat.pow_add, Nat.pow_add, Int.natCast_mul, Int.natCast_mul]
    refine Int.mul_le_mul_of_nonneg_left ?_ (Int.mul_nonneg (Int.natCast_nonneg _) (Int.natCast_nonneg _))
    exact Int.ofNat_le.mpr hl
  exact Bn.of (by omega) (by omega)
theorem cut1 {α : Type} (d : α) (ds : List α) : cutD (d :: ds) (some 1) none = ds := by
  unfold cutD sIxD
  simp
theorem cut_mem {α : Type} {d : α} {ds : List α} {l h : Option Int} (hd : d ∈ cutD ds l h) : d ∈ ds := List.mem_of_mem_drop (List.mem_of_mem_take hd)
theorem cut_len {α : Type} {ds : List α} {l h : Option Int} : (cutD ds l h).length ≤ ds.length := by
  unfold cutD; rw [List.length_take, List.length_drop]; omega
theorem pur_cut {ds : List D} {l h : Option Int} (p : Purs ds) : Purs (cutD ds l h) := Purs.of fun d hd => Purs.mem p d (cut_mem hd)
theorem pur_app {ds es : List D} (p : Purs ds) (q : Purs es) : Purs (ds ++ es) := Purs.of fun d hd => by
  rcases List.mem_append.mp hd with hd | hd
  · exact Purs.mem p d hd
  · exact Purs.mem q d hd
theorem enum_at : ∀ {ds : List D} {j i : Nat} {d : D}, (enumFrom j ds)[i]? = some d → ∃ x, ds[i]? = some x ∧ d = .tup [.int ((j + i : Nat) : Int), x]
  | [], _, _, _, h => by simp [enumFrom] at h
  | x :: ds, j, 0, d, h => by
    simp [enumFrom] at h
    exact ⟨x, rfl, h.symm⟩
  | x :: ds, j, i + 1, d, h => by
    have h : (enumFrom (j + 1) ds)[i]? = some d := by simpa [enumFrom] using h
    obtain ⟨y, h1, h2⟩ := enum_at h
    exact ⟨y, by simpa using h1, by rw [h2]; congr 3; omega⟩
theorem enum_get {ds : List D} {i : Nat} {d : D} (h : (enumFrom 0 ds)[i]? = some d) : ∃ x, ds[i]? = some x ∧ d = .tup [.int (i : Nat), x] := by
  obtain ⟨x, h1, h2⟩ := enum_at h
  exact ⟨x, h1, by rw [h2, Nat.zero_add]⟩
theorem enum_len : ∀ (ds : List D) (j : Nat), (enumFrom j ds).length = ds.length
  | [], _ => rfl
  | d :: ds, j => congrArg (· + 1) (enum_len ds (j + 1))
/-- rows of whole numbers -/
abbrev dR (rs : List (List Int)) : List D := rs.map dI
theorem rows_of {C : List Int → Prop} : ∀ {ys : List D}, (∀ (i : Nat) (y : D), ys[i]? = some y → ∃ j, y = dI j ∧ C j) → ∃ is : List (List Int), ys = dR is ∧ is.length = ys.length ∧ ∀ j ∈ is, C j
  | [], _ => ⟨[], rfl, rfl, by simp⟩
  | y :: ys, h => by
    obtain ⟨j, rfl, hj⟩ := h 0 y rfl
    obtain ⟨is, rfl, hl, hc⟩ := rows_of (ys := ys) fun i y hy => h (i + 1) y (by simpa using hy)
    exact ⟨j :: is, rfl, by simp, fun x hx => by
      rcases List.mem_cons.mp hx with rfl | hx
      · exact hj
      · exact hc x hx⟩
theorem pure_dR {rs : List (List Int)} : Purs (dR rs) := Purs.of fun d hd => by
  obtain ⟨i, _, rfl⟩ := List.mem_map.mp hd
  exact pure_dI
theorem zip_rows : ∀ (ns : List Int) (rs : List (List Int)), zipD (ns.map D.int) (dR rs) = (ns.zip rs).map fun p => D.tup [.int p.1, dI p.2]
  | [], _ => rfl
  | _ :: _, [] => rfl
  | n :: ns, r :: rs => congrArg _ (zip_rows ns rs)
theorem rng_map : ∀ (n : Nat) (lo : Int), rangeL lo n = (List.range n).map fun i => D.int (lo + (i : Nat))
  | 0, _ => rfl
  | n + 1, lo => by
    rw [List.range_succ_eq_map, List.map_cons, List.map_map]
    show D.int lo :: rangeL (lo + 1) n = _
    rw [rng_map n (lo + 1)]
    congr 1
    · simp
    · apply List.map_congr_left
      intro i _
      show D.int (lo + 1 + (i : Nat)) = D.int (lo + ((i + 1 : Nat) : Int))
      congr 1; omega
/-! the arena and what is put behind it -/
theorem push_get {M g : Ar} {j : Nat} : (M ++ g)[M.length + j]? = g[j]? := by
  rw [List.getElem?_append_right (by omega)]; congr 1; omega
theorem push_get0 {M g : Ar} {o : Ob} : (M ++ o :: g)[M.length]? = some o := by
  rw [List.getElem?_append_right (Nat.le_refl _), Nat.sub_self]; rfl
theorem behind_set {M g : Ar} {j : Nat} {o : Ob} : (M ++ g).set (M.length + j) o = M ++ g.set j o := by
  rw [List.set_append_right _ _ (by omega)]; congr 2; omega
theorem get_end {M : Ar} {o : Ob} : (M ++ [o])[M.length]? = some o := push_get0
theorem push_old {M g : Ar} {p : Nat} {o : Ob} (h : M[p]? = some o) : (M ++ g)[p]? = some o := by
  rw [List.getElem?_append_left (List.getElem?_eq_some_iff.mp h).1]; exact h
theorem sum_b {b : Int} (hb : 0 ≤ b) : ∀ is : List Int, (∀ i ∈ is, -b ≤ i ∧ i ≤ b) → -(b * is.length) ≤ is.sum ∧ is.sum ≤ b * is.length
  | [], _ => by simp
  | i :: is, h => by
    have ih := sum_b hb is fun x hx => h x (List.mem_cons_of_mem _ hx)
    have hi := h i (List.mem_cons_self ..)
    rw [List.sum_cons, List.length_cons]
    have e : b * ((is.length + 1 : Nat) : Int) = b * (is.length : Int) + b := by
      rw [Int.natCast_add, Int.mul_add]; simp
    rw [e]
    generalize b * (is.length : Int) = w at *
    omega
theorem sum_Bn {b n : Nat} {is : List Int} (h : ∀ i ∈ is, Bn b i) (hl : is.length ≤ 2 ^ n) : Bn (b + n) is.sum := by
  have := sum_b (b := ((2 ^ b : Nat) : Int)) (Int.natCast_nonneg _) is fun i hi => Bn.both (h i hi)
  have e : ((2 ^ b : Nat) : Int) * (is.length : Int) ≤ ((2 ^ (b + n) : Nat) : Int) := by
    rw [Nat.pow_add, Int.natCast_mul]
    exact Int.mul_le_mul_of_nonneg_left (Int.ofNat_le.mpr hl) (Int.natCast_nonneg _)
  exact Bn.of (by omega) (by omega)
theorem atD_some {α : Type} {ds : List α} {i : Int} (h0 : -(ds.length : Int) ≤ i) (h1 : i < ds.length) : ∃ d, d ∈ ds ∧ atD ds i = some d := by
  unfold atD ixD
  by_cases h : 0 ≤ i
  · rw [if_pos h, if_pos h1]
    have : i.toNat < ds.length := by omega
    exact ⟨ds[i.toNat], List.getElem_mem _, List.getElem?_eq_getElem this⟩
  · rw [if_neg h, if_pos h0]
    have : (i + ds.length).toNat < ds.length := by omega
    exact ⟨ds[(i + ds.length).toNat], List.getElem_mem _, List.getElem?_eq_getElem this⟩
/-! what is equal to itself -/
def datB : Nat → D → Bool
  | 0, _ => false
  | _ + 1, .non => true
  | _ + 1, .bl _ => true
  | _ + 1, .int _ => true
  | _ + 1, .str x => x.all (· < 1114112)
  | k + 1, .tup ds => ds.all (datB k)
  | k + 1, .rl ds => ds.all (datB k)
  | k + 1, .vl ds => ds.all (datB k)
  | _ + 1, _ => false
theorem toP_dat : ∀ (k : Nat) (d : D) (M : Ar), datB k d = true → ∃ p, toP k M d = some p ∧ PySem.PyData.eqv p p = true
  | 0, _, _, h => by cases h
  | k + 1, d, M, h => by
    have many : ∀ ds : List D, ds.all (datB k) = true → ∃ ps, ds.mapM (toP k M) = some ps ∧ PySem.PyData.eqvAll ps ps = true := fun ds => by
      induction ds with
      | nil => exact fun _ => ⟨[], rfl, by simp [PySem.PyData.eqvAll]⟩
      | cons d ds ih =>
        intro h
        rw [List.all_cons, Bool.and_eq_true] at h
        obtain ⟨p, e, q⟩ := toP_dat k d M h.1
        obtain ⟨ps, e2, q2⟩ := ih h.2
        refine ⟨p :: ps, by rw [List.mapM_cons, e, e2]; rfl, ?_⟩
        simp only [PySem.PyData.eqvAll, q, q2, Bool.and_self]
    cases d with
    | non => exact ⟨.none, rfl, by simp [PySem.PyData.eqv]⟩
    | bl b => exact ⟨.bool b, rfl, by simp [PySem.PyData.eqv]⟩
    | int i => exact ⟨.int i, rfl, by simp [PySem.PyData.eqv]⟩
    | str x =>
      refine ⟨.str ⟨x.toArray⟩, ?_, by simp [PySem.PyData.eqv]⟩
      have h : x.all (· < 1114112) = true := h
      simp only [toP]
      rw [if_pos h]
    | tup ds =>
      obtain ⟨ps, e, q⟩ := many ds h
      exact ⟨.tuple ps, by simp only [toP, e, Option.map_some], by simp only [PySem.PyData.eqv, q]⟩
    | rl ds =>
      obtain ⟨ps, e, q⟩ := many ds h
      exact ⟨.list ps, by simp only [toP, e, Option.map_some], by simp only [PySem.PyData.eqv, q]⟩
    | vl ds =>
      obtain ⟨ps, e, q⟩ := many ds h
      exact ⟨.list ps, by simp only [toP, e, Option.map_some], by simp only [PySem.PyData.eqv, q]⟩
    | vd t ks vs => cases h
    | ref n => cases h
theorem eqR_self {M : Ar} {d : D} (h : datB 30 d = true) : eqR M (.d d) (.d d) = some true := by
  obtain ⟨p, e, q⟩ := toP_dat 30 d M h
  show (match toP 30 M d, toP 30 M d with | some a, some b => some (PySem.PyData.eqv a b) | _, _ => none) = _
  rw [e]
  show some (PySem.PyData.eqv p p) = _
  rw [q]
theorem cmpEq_self {M : Ar} {d : D} (h : datB 30 d = true) : cmpEq (.d d) (.d d) M = some true := by
  cases d with
  | int i => exact congrArg some (decide_eq_true rfl)
  | _ => exact eqR_self (M := M) h
theorem l_eqS {M : Ar} {d : D} {B : Bool → Prop} (h : datB 30 d = true) (q : B true) : optP (oCmp .eq (.d d) (.d d) M) B := l_cmp (b := true) (cmpEq_self h) q
theorem l_neS {M : Ar} {d : D} {B : Bool → Prop} (h : datB 30 d = true) (q : B false) : optP (oCmp .ne (.d d) (.d d) M) B := by
  refine l_cmp (b := false) ?_ q
  show (cmpEq (.d d) (.d d) M).map (!·) = _
  rw [cmpEq_self h]; rfl
theorem dat_dI {is : List Int} : datB 30 (dI is) = true := by
  show (is.map D.int).all (datB 29) = true
  rw [List.all_eq_true]
  intro d hd
  obtain ⟨i, _, rfl⟩ := List.mem_map.mp hd
  rfl
theorem l_asS {M : Ar} {x : Rv} {ds : List D} {R : List D → Prop} (e : asS M x = some ds) (q : R ds) : optP (oAsS M x) R := by rw [oAsS_eq]; exact o_eq e q
theorem l_idxI {M : Ar} {r : List Int} {i : Int} {R : Rv → Prop} (h0 : 0 ≤ i) (h : i < r.length) (q : R (.d (.int (r.getD i.toNat 0)))) : optP (oIdx (.d (dI r)) (.d (.int i)) M) R := by
  refine l_idxT (atD_nat h0 ?_) q
  have hlt : i.toNat < r.length := by omega
  simp [hlt]
end Q
end

section
set_option linter.all false
set_option maxRecDepth 100000
namespace L_k01
open Q
/-- is_integer(value) 0=value -/
def d_is_integer : Df := ⟨1, 1, (.cons (.ret (.and (.isin (.var 0) [.int]) (.nt (.isin (.var 0) [.bool])))) .nil)⟩
/-- is_short(value) 0=value -/
def d_is_short : Df := ⟨1, 1, (.cons (.ret (.and (.call 0 (.cons (.var 0) .nil)) (.chain .lt .lt (.neg (.cst (.int 1000000000000000000000000000000000000000000000000000000000000))) (.var 0) (.cst (.int 1000000000000000000000000000000000000000000000000000000000000))))) .nil)⟩
/-- is_within(value, least, most) 0=value 1=least 2=most -/
def d_is_within : Df := ⟨3, 3, (.cons (.ret (.and (.call 0 (.cons (.var 0) .nil)) (.chain .le .le (.var 1) (.var 0) (.var 2)))) .nil)⟩
/-- require_within(value, least, most) 0=value 1=least 2=most -/
def d_require_within : Df := ⟨3, 3, (.cons (.ite (.nt (.call 2 (.cons (.var 0) (.cons (.var 1) (.cons (.var 2) .nil))))) (.cons .never .nil) .nil) .nil)⟩
/-- is_form_in(many, value) 0=many 1=value 2=entry -/
def d_is_form_in : Df := ⟨2, 3, (.cons (.ret (.and (.isin (.var 1) [.tuple]) (.and (.cmp .eq (.blt .len (.cons (.var 1) .nil)) (.bin .add (.var 0) (.cst (.int 1)))) (.blt .all (.cons (.comp [2] (.seq (.var 1)) (.nm 2) (.cst (.bl true)) (.call 1 (.cons (.var 2) .nil))) .nil))))) .nil)⟩
/-- is_any_form(value) 0=value -/
def d_is_any_form : Df := ⟨1, 1, (.cons (.ret (.and (.isin (.var 0) [.tuple]) (.and (.chain .le .le (.cst (.int 1)) (.blt .len (.cons (.var 0) .nil)) (.bin .add (.cst (.int 14)) (.cst (.int 1)))) (.call 4 (.cons (.bin .sub (.blt .len (.cons (.var 0) .nil)) (.cst (.int 1))) (.cons (.var 0) .nil)))))) .nil)⟩
/-- is_vector_in(many, value) 0=many 1=value 2=entry -/
def d_is_vector_in : Df := ⟨2, 3, (.cons (.ite (.or (.nt (.isin (.var 1) [.tuple])) (.or (.cmp .ne (.blt .len (.cons (.var 1) .nil)) (.bin .add (.var 0) (.cst (.int 1)))) (.nt (.blt .all (.cons (.comp [2] (.seq (.var 1)) (.nm 2) (.cst (.bl true)) (.call 0 (.cons (.var 2) .nil))) .nil))))) (.cons (.ret (.cst (.bl false))) .nil) .nil) (.cons (.ret (.cmp .ge (.idx (.var 1) (.cst (.int 0))) (.cst (.int 0)))) .nil))⟩
/-- at_in(form, vector) 0=form 1=vector 2=one 3=other -/
def d_at_in : Df := ⟨2, 4, (.cons (.ret (.blt .sum (.cons (.comp [2, 3] (.zip (.var 0) (.var 1)) (.tp (.cons (.nm 2) (.cons (.nm 3) .nil))) (.cst (.bl true)) (.bin .mul (.var 2) (.var 3))) .nil))) .nil)⟩
/-- plus_in(one, other) 0=one 1=other 2=first 3=second -/
def d_plus_in : Df := ⟨2, 4, (.cons (.ret (.blt .tuple (.cons (.comp [2, 3] (.zip (.var 0) (.var 1)) (.tp (.cons (.nm 2) (.cons (.nm 3) .nil))) (.cst (.bl true)) (.bin .add (.var 2) (.var 3))) .nil))) .nil)⟩
/-- times_in(number, form) 0=number 1=form 2=entry -/
def d_times_in : Df := ⟨2, 3, (.cons (.ret (.blt .tuple (.cons (.comp [2] (.seq (.var 1)) (.nm 2) (.cst (.bl true)) (.bin .mul (.var 0) (.var 2))) .nil))) .nil)⟩
/-- constant_form(number, many) 0=number 1=many -/
def d_constant_form : Df := ⟨2, 2, (.cons (.ret (.tup (.cons (.var 0) (.star (.bin .mul (.lst (.cons (.cst (.int 0)) .nil)) (.var 1)) .nil)))) .nil)⟩
/-- put_into(form, forms, many) 0=form 1=forms 2=many 3=found 4=entry 5=one -/
def d_put_into : Df := ⟨3, 6, (.cons (.asg (.nm 3) (.call 10 (.cons (.idx (.var 0) (.cst (.int 0))) (.cons (.var 2) .nil)))) (.cons (.for_ (.zip (.slc (.var 0) (.cst (.int 1)) (.cst .non)) (.var 1)) (.tp (.cons (.nm 4) (.cons (.nm 5) .nil))) (.cons (.ite (.cmp .ne (.var 4) (.cst (.int 0))) (.cons (.asg (.nm 3) (.call 8 (.cons (.var 3) (.cons (.call 9 (.cons (.var 4) (.cons (.var 5) .nil))) .nil)))) .nil) .nil) .nil)) (.cons (.ret (.var 3)) .nil)))⟩
/-- moved_to(form, places, many) 0=form 1=places 2=many 3=found 4=entry 5=place -/
def d_moved_to : Df := ⟨3, 6, (.cons (.asgP (.nm 3) (.bin .add (.lst (.cons (.idx (.var 0) (.cst (.int 0))) .nil)) (.bin .mul (.lst (.cons (.cst (.int 0)) .nil)) (.var 2)))) (.cons (.for_ (.zip (.slc (.var 0) (.cst (.int 1)) (.cst .non)) (.var 1)) (.tp (.cons (.nm 4) (.cons (.nm 5) .nil))) (.cons (.put (.var 3) (.bin .add (.var 5) (.cst (.int 1))) (.var 4)) .nil)) (.cons (.ret (.blt .tuple (.cons (.var 3) .nil))) .nil)))⟩
/-- require_many(many) 0=many -/
def d_require_many : Df := ⟨1, 1, (.cons (.expr (.call 3 (.cons (.var 0) (.cons (.cst (.int 0)) (.cons (.cst (.int 14)) .nil))))) .nil)⟩
/-- require_any_form(form) 0=form -/
def d_require_any_form : Df := ⟨1, 1, (.cons (.ite (.nt (.call 5 (.cons (.var 0) .nil))) (.cons .never .nil) .nil) .nil)⟩
/-- value_at(form, vector) 0=form 1=vector -/
def d_value_at : Df := ⟨2, 2, (.cons (.expr (.call 14 (.cons (.var 0) .nil))) (.cons (.ite (.nt (.call 6 (.cons (.bin .sub (.blt .len (.cons (.var 0) .nil)) (.cst (.int 1))) (.cons (.var 1) .nil)))) (.cons .never .nil) .nil) (.cons (.ret (.call 7 (.cons (.var 0) (.cons (.var 1) .nil)))) .nil)))⟩
/-- plus(one, other) 0=one 1=other -/
def d_plus : Df := ⟨2, 2, (.cons (.expr (.call 14 (.cons (.var 0) .nil))) (.cons (.expr (.call 14 (.cons (.var 1) .nil))) (.cons (.ite (.cmp .ne (.blt .len (.cons (.var 0) .nil)) (.blt .len (.cons (.var 1) .nil))) (.cons .never .nil) .nil) (.cons (.ret (.call 8 (.cons (.var 0) (.cons (.var 1) .nil)))) .nil))))⟩
/-- times(number, form) 0=number 1=form -/
def d_times : Df := ⟨2, 2, (.cons (.ite (.nt (.call 1 (.cons (.var 0) .nil))) (.cons .never .nil) .nil) (.cons (.expr (.call 14 (.cons (.var 1) .nil))) (.cons (.ret (.call 9 (.cons (.var 0) (.cons (.var 1) .nil)))) .nil)))⟩
/-- put_in(form, forms, many) 0=form 1=forms 2=many 3=one -/
def d_put_in : Df := ⟨3, 4, (.cons (.expr (.call 14 (.cons (.var 0) .nil))) (.cons (.expr (.call 13 (.cons (.var 2) .nil))) (.cons (.ite (.or (.nt (.isin (.var 1) [.tuple])) (.or (.cmp .ne (.blt .len (.cons (.var 1) .nil)) (.bin .sub (.blt .len (.cons (.var 0) .nil)) (.cst (.int 1)))) (.nt (.blt .all (.cons (.comp [3] (.seq (.var 1)) (.nm 3) (.cst (.bl true)) (.call 4 (.cons (.var 2) (.cons (.var 3) .nil)))) .nil))))) (.cons .never .nil) .nil) (.cons (.ret (.call 11 (.cons (.var 0) (.cons (.var 1) (.cons (.var 2) .nil))))) .nil))))⟩
/-- moved(form, places, many) 0=form 1=places 2=many 3=place -/
def d_moved : Df := ⟨3, 4, (.cons (.expr (.call 14 (.cons (.var 0) .nil))) (.cons (.expr (.call 13 (.cons (.var 2) .nil))) (.cons (.ite (.or (.nt (.isin (.var 1) [.tuple])) (.cmp .ne (.blt .len (.cons (.var 1) .nil)) (.bin .sub (.blt .len (.cons (.var 0) .nil)) (.cst (.int 1))))) (.cons .never .nil) .nil) (.cons (.ite (.or (.nt (.blt .all (.cons (.comp [3] (.seq (.var 1)) (.nm 3) (.cst (.bl true)) (.and (.call 0 (.cons (.var 3) .nil)) (.chain .le .lt (.cst (.int 0)) (.var 3) (.var 2)))) .nil))) (.cmp .ne (.op1 .lenset (.var 1)) (.blt .len (.cons (.var 1) .nil)))) (.cons .never .nil) .nil) (.cons (.ret (.call 12 (.cons (.var 0) (.cons (.var 1) (.cons (.var 2) .nil))))) .nil)))))⟩
/-- _law_spins(_law_script, _law_spot) 0=_law_script 1=_law_spot 2=_law_cell 3=_law_great -/
def d__law_spins : Df := ⟨2, 4, (.cons (.asg (.nm 2) (.ite (.cmp .lt (.var 1) (.blt .len (.cons (.var 0) .nil))) (.blt .int (.cons (.idx (.var 0) (.var 1)) .nil)) (.bin .add (.bin .mul (.cst (.int 223)) (.var 1)) (.cst (.int 71))))) (.cons (.asg (.nm 3) (.bin .mod (.blt .int (.cons (.blt .abs (.cons (.var 2) .nil)) .nil)) (.bin .pow (.bin .pow (.cst (.int 10)) (.cst (.int 51))) (.cst (.int 6))))) (.cons (.ret (.lst (.cons (.blt .max (.cons (.cst (.int 0)) (.cons (.bin .sub (.var 3) (.bin .pow (.cst (.int 10)) (.cst (.int 16)))) .nil))) (.cons (.bin .add (.bin .add (.bin .add (.bin .mul (.bin .mod (.blt .int (.cons (.var 3) .nil)) (.cst (.int 2305843009213693907))) (.cst (.int 67))) (.bin .mul (.cst (.int 941)) (.var 1))) (.bin .mul (.cst (.int 43)) (.blt .int (.cons (.cmp .lt (.var 2) (.cst (.int 0))) .nil)))) (.cst (.int 17))) (.cons (.cst (.int 0)) .nil))))) .nil)))⟩
/-- _law_spin(_law_spins_here, _law_total) 0=_law_spins_here 1=_law_total 2=_law_one 3=_law_two 4=_law_found -/
def d__law_spin : Df := ⟨2, 5, (.cons (.ite (.cmp .gt (.idx (.var 0) (.cst (.int 0))) (.cst (.int 0))) (.cons (.asg (.nm 4) (.bin .mod (.blt .int (.cons (.idx (.var 0) (.cst (.int 0))) .nil)) (.var 1))) (.cons (.put (.var 0) (.cst (.int 0)) (.bin .div (.idx (.var 0) (.cst (.int 0))) (.var 1))) (.cons (.ret (.var 4)) .nil))) .nil) (.cons (.put (.var 0) (.cst (.int 2)) (.bin .add (.idx (.var 0) (.cst (.int 2))) (.cst (.int 1)))) (.cons (.asg (.nm 2) (.bin .mod (.blt .int (.cons (.bin .add (.idx (.var 0) (.cst (.int 1))) (.bin .mul (.cst (.int 32452843)) (.idx (.var 0) (.cst (.int 2))))) .nil)) (.cst (.int 2305843009213693951)))) (.cons (.asg (.nm 3) (.bin .add (.bin .mul (.bin .mod (.blt .int (.cons (.bin .add (.bin .mul (.var 2) (.var 2)) (.bin .mul (.cst (.int 109)) (.idx (.var 0) (.cst (.int 2))))) .nil)) (.cst (.int 2305843009213693921))) (.cst (.int 49979687))) (.var 2))) (.cons (.ret (.bin .mod (.blt .int (.cons (.bin .div (.var 3) (.cst (.int 65551))) .nil)) (.var 1))) .nil)))))⟩
/-- _law_among(_law_spins_here, _law_items) 0=_law_spins_here 1=_law_items -/
def d__law_among : Df := ⟨2, 2, (.cons (.ret (.idx (.var 1) (.call 21 (.cons (.var 0) (.cons (.blt .len (.cons (.var 1) .nil)) .nil))))) .nil)⟩
/-- _law_at(_law_form, _law_vector) 0=_law_form 1=_law_vector 2=_law_one 3=_law_other -/
def d__law_at : Df := ⟨2, 4, (.cons (.ret (.blt .sum (.cons (.comp [2, 3] (.zip (.var 0) (.var 1)) (.tp (.cons (.nm 2) (.cons (.nm 3) .nil))) (.cst (.bl true)) (.bin .mul (.var 2) (.var 3))) .nil))) .nil)⟩
/-- _law_put(_law_form, _law_forms, _law_many) 0=_law_form 1=_law_forms 2=_law_many 3=_law_found 4=_law_number 5=_law_told 6=_law_place -/
def d__law_put : Df := ⟨3, 7, (.cons (.asgP (.nm 3) (.bin .add (.lst (.cons (.idx (.var 0) (.cst (.int 0))) .nil)) (.bin .mul (.lst (.cons (.cst (.int 0)) .nil)) (.var 2)))) (.cons (.for_ (.zip (.slc (.var 0) (.cst (.int 1)) (.cst .non)) (.var 1)) (.tp (.cons (.nm 4) (.cons (.nm 5) .nil))) (.cons (.for_ (.rng (.cons (.bin .add (.var 2) (.cst (.int 1))) .nil)) (.nm 6) (.cons (.put (.var 3) (.var 6) (.bin .add (.idx (.var 3) (.var 6)) (.bin .mul (.var 4) (.idx (.var 5) (.var 6))))) .nil)) .nil)) (.cons (.ret (.blt .tuple (.cons (.var 3) .nil))) .nil)))⟩
/-- _law_form_drawn(_law_spins_here, _law_many, _law_most) 0=_law_spins_here 1=_law_many 2=_law_most 3=_law_found 4=_law_turn -/
def d__law_form_drawn : Df := ⟨3, 5, (.cons (.asgP (.nm 3) (.bin .add (.lst (.cons (.bin .sub (.call 21 (.cons (.var 0) (.cons (.bin .add (.bin .mul (.cst (.int 2)) (.var 2)) (.cst (.int 1))) .nil))) (.var 2)) .nil)) (.bin .mul (.lst (.cons (.cst (.int 0)) .nil)) (.var 1)))) (.cons (.for_ (.rng (.cons (.ite (.cmp .gt (.var 1) (.cst (.int 0))) (.call 22 (.cons (.var 0) (.cons (.lst (.cons (.cst (.int 0)) (.cons (.cst (.int 1)) (.cons (.cst (.int 1)) (.cons (.cst (.int 1)) (.cons (.cst (.int 2)) (.cons (.cst (.int 2)) (.cons (.cst (.int 3)) .nil)))))))) .nil))) (.cst (.int 0))) .nil)) (.nm 4) (.cons (.put (.var 3) (.bin .add (.cst (.int 1)) (.call 21 (.cons (.var 0) (.cons (.var 1) .nil)))) (.call 22 (.cons (.var 0) (.cons (.lst (.cons (.cst (.int 1)) (.cons (.cst (.int 1)) (.cons (.cst (.int 1)) (.cons (.neg (.cst (.int 1))) (.cons (.neg (.cst (.int 1))) (.cons (.cst (.int 2)) (.cons (.neg (.cst (.int 2))) (.cons (.cst (.int 3)) .nil))))))))) .nil)))) .nil)) (.cons (.ret (.blt .tuple (.cons (.var 3) .nil))) .nil)))⟩
/-- _law_many_drawn(_law_spins_here) 0=_law_spins_here -/
def d__law_many_drawn : Df := ⟨1, 1, (.cons (.ret (.call 22 (.cons (.var 0) (.cons (.lst (.cons (.cst (.int 0)) (.cons (.cst (.int 1)) (.cons (.cst (.int 1)) (.cons (.cst (.int 2)) (.cons (.cst (.int 2)) (.cons (.cst (.int 2)) (.cons (.cst (.int 3)) (.cons (.cst (.int 3)) (.cons (.cst (.int 4)) (.cons (.cst (.int 5)) (.cons (.cst (.int 7)) .nil)))))))))))) .nil)))) .nil)⟩
/-- _law_plain_form(_law_spins_here, _law_many, _law_most) 0=_law_spins_here 1=_law_many 2=_law_most 3=_law_at_here -/
def d__law_plain_form : Df := ⟨3, 4, (.cons (.ret (.blt .tuple (.cons (.comp [3] (.rng (.cons (.bin .add (.var 1) (.cst (.int 1))) .nil)) (.nm 3) (.cst (.bl true)) (.call 22 (.cons (.var 0) (.cons (.lst (.cons (.cst (.int 0)) (.cons (.cst (.int 0)) (.cons (.bin .sub (.call 21 (.cons (.var 0) (.cons (.bin .add (.bin .mul (.cst (.int 2)) (.var 2)) (.cst (.int 1))) .nil))) (.var 2)) .nil)))) .nil)))) .nil))) .nil)⟩
/-- _law_vector_drawn(_law_spins_here, _law_many) 0=_law_spins_here 1=_law_many 2=_law_size 3=_law_at_here -/
def d__law_vector_drawn : Df := ⟨2, 4, (.cons (.asg (.nm 2) (.call 22 (.cons (.var 0) (.cons (.lst (.cons (.cst (.int 3)) (.cons (.cst (.int 9)) (.cons (.bin .pow (.cst (.int 10)) (.cst (.int 9))) (.cons (.bin .pow (.cst (.int 10)) (.cst (.int 29))) .nil))))) .nil)))) (.cons (.ret (.bin .add (.tup (.cons (.call 21 (.cons (.var 0) (.cons (.cst (.int 5)) .nil))) .nil)) (.blt .tuple (.cons (.comp [3] (.rng (.cons (.var 1) .nil)) (.nm 3) (.cst (.bl true)) (.bin .sub (.call 21 (.cons (.var 0) (.cons (.bin .add (.bin .mul (.cst (.int 2)) (.var 2)) (.cst (.int 1))) .nil))) (.var 2))) .nil)))) .nil))⟩
/-- _law_right(_law_spins_here) 0=_law_spins_here 1=_law_put_here 2=_law_further 3=_law_number 4=_law_turn 5=_law_many 6=_law_into 7=_law_last 8=_law_one 9=_law_other 10=_law_made 11=_law_due 12=_law_vector 13=_law_above 14=_law_at_here 15=_law_entry 16=_law_form 17=_law_first 18=_law_second -/
def d__law_right : Df := ⟨1, 19, (.cons (.asg (.tp (.cons (.nm 5) (.cons (.nm 6) (.cons (.nm 7) .nil)))) (.tup (.cons (.call 26 (.cons (.var 0) .nil)) (.cons (.call 26 (.cons (.var 0) .nil)) (.cons (.call 22 (.cons (.var 0) (.cons (.lst (.cons (.cst (.int 0)) (.cons (.cst (.int 1)) (.cons (.cst (.int 2)) (.cons (.cst (.int 14)) .nil))))) .nil))) .nil))))) (.cons (.par [8, 9] (.cons (.call 27 (.cons (.var 0) (.cons (.var 5) (.cons (.bin .pow (.cst (.int 10)) (.cst (.int 6))) .nil)))) (.cons (.call 25 (.cons (.var 0) (.cons (.var 5) (.cons (.cst (.int 5)) .nil)))) .nil))) (.cons (.asg (.nm 1) (.blt .tuple (.cons (.comp [14] (.rng (.cons (.var 5) .nil)) (.nm 14) (.cst (.bl true)) (.call 25 (.cons (.var 0) (.cons (.var 6) (.cons (.cst (.int 3)) .nil))))) .nil))) (.cons (.asg (.nm 2) (.blt .tuple (.cons (.comp [14] (.rng (.cons (.var 6) .nil)) (.nm 14) (.cst (.bl true)) (.call 27 (.cons (.var 0) (.cons (.var 7) (.cons (.cst (.int 9)) .nil))))) .nil))) (.cons (.par [10, 11] (.cons (.call 18 (.cons (.var 8) (.cons (.var 1) (.cons (.var 6) .nil)))) (.cons (.call 24 (.cons (.var 8) (.cons (.var 1) (.cons (.var 6) .nil)))) .nil))) (.cons (.ite (.or (.cmp .ne (.var 10) (.var 11)) (.cmp .ne (.call 18 (.cons (.var 10) (.cons (.var 2) (.cons (.var 7) .nil)))) (.call 24 (.cons (.var 11) (.cons (.var 2) (.cons (.var 7) .nil)))))) (.cons (.ret (.cst (.bl false))) .nil) .nil) (.cons (.ite (.cmp .ne (.call 18 (.cons (.var 8) (.cons (.blt .tuple (.cons (.comp [16] (.seq (.var 1)) (.nm 16) (.cst (.bl true)) (.call 18 (.cons (.var 16) (.cons (.var 2) (.cons (.var 7) .nil))))) .nil)) (.cons (.var 7) .nil)))) (.call 18 (.cons (.var 10) (.cons (.var 2) (.cons (.var 7) .nil))))) (.cons (.ret (.cst (.bl false))) .nil) .nil) (.cons (.asg (.nm 3) (.bin .sub (.call 21 (.cons (.var 0) (.cons (.cst (.int 2001)) .nil))) (.cst (.int 1000)))) (.cons (.ite (.cmp .ne (.call 16 (.cons (.var 8) (.cons (.var 9) .nil))) (.blt .tuple (.cons (.comp [17, 18] (.zip (.var 8) (.var 9)) (.tp (.cons (.nm 17) (.cons (.nm 18) .nil))) (.cst (.bl true)) (.bin .add (.var 17) (.var 18))) .nil))) (.cons (.ret (.cst (.bl false))) .nil) .nil) (.cons (.ite (.cmp .ne (.call 17 (.cons (.var 3) (.cons (.var 8) .nil))) (.blt .tuple (.cons (.comp [15] (.seq (.var 8)) (.nm 15) (.cst (.bl true)) (.bin .mul (.var 3) (.var 15))) .nil))) (.cons (.ret (.cst (.bl false))) .nil) .nil) (.cons (.for_ (.rng (.cons (.cst (.int 3)) .nil)) (.nm 4) (.cons (.asg (.nm 12) (.call 28 (.cons (.var 0) (.cons (.var 6) .nil)))) (.cons (.asg (.nm 13) (.bin .add (.tup (.cons (.idx (.var 12) (.cst (.int 0))) .nil)) (.blt .tuple (.cons (.comp [16] (.seq (.var 1)) (.nm 16) (.cst (.bl true)) (.call 23 (.cons (.var 16) (.cons (.var 12) .nil)))) .nil)))) (.cons (.ite (.or (.cmp .ne (.call 15 (.cons (.var 10) (.cons (.var 12) .nil))) (.call 23 (.cons (.var 8) (.cons (.var 13) .nil)))) (.cmp .ne (.call 15 (.cons (.var 10) (.cons (.var 12) .nil))) (.call 15 (.cons (.var 8) (.cons (.var 13) .nil))))) (.cons (.ret (.cst (.bl false))) .nil) .nil) (.cons (.ite (.cmp .ne (.call 15 (.cons (.call 16 (.cons (.var 8) (.cons (.call 17 (.cons (.var 3) (.cons (.var 9) .nil))) .nil))) (.cons (.var 13) .nil))) (.bin .add (.call 15 (.cons (.var 8) (.cons (.var 13) .nil))) (.bin .mul (.var 3) (.call 15 (.cons (.var 9) (.cons (.var 13) .nil)))))) (.cons (.ret (.cst (.bl false))) .nil) .nil) .nil))))) (.cons (.ret (.call 30 (.cons (.var 0) (.cons (.var 8) (.cons (.var 5) .nil))))) .nil))))))))))))⟩
/-- _law_moved_right(_law_spins_here, _law_form, _law_many) 0=_law_spins_here 1=_law_form 2=_law_many 3=_law_turn 4=_law_due 5=_law_into 6=_law_left 7=_law_places 8=_law_some 9=_law_entry 10=_law_place -/
def d__law_moved_right : Df := ⟨3, 11, (.cons (.asg (.tp (.cons (.nm 5) (.cons (.nm 6) (.cons (.nm 7) .nil)))) (.tup (.cons (.bin .add (.var 2) (.call 21 (.cons (.var 0) (.cons (.cst (.int 4)) .nil)))) (.cons (.op1 .lrg (.bin .add (.var 2) (.cst (.int 4)))) (.plc (.lst .nil) .nil))))) (.cons (.for_ (.rng (.cons (.var 2) .nil)) (.nm 3) (.cons (.asg (.nm 8) (.comp [10] (.seq (.var 6)) (.nm 10) (.and (.cmp .lt (.var 10) (.var 5)) (.cmp .nin (.var 10) (.var 7))) (.var 10))) (.cons (.expr (.meth .append (.var 7) (.cons (.call 22 (.cons (.var 0) (.cons (.var 8) .nil))) .nil))) .nil))) (.cons (.asgP (.nm 4) (.bin .add (.lst (.cons (.idx (.var 1) (.cst (.int 0))) .nil)) (.bin .mul (.lst (.cons (.cst (.int 0)) .nil)) (.var 5)))) (.cons (.for_ (.zip (.slc (.var 1) (.cst (.int 1)) (.cst .non)) (.var 7)) (.tp (.cons (.nm 9) (.cons (.nm 10) .nil))) (.cons (.put (.var 4) (.bin .add (.var 10) (.cst (.int 1))) (.var 9)) .nil)) (.cons (.ret (.cmp .eq (.call 19 (.cons (.var 1) (.cons (.blt .tuple (.cons (.var 7) .nil)) (.cons (.var 5) .nil)))) (.blt .tuple (.cons (.var 4) .nil)))) .nil)))))⟩
/-- law(_law_script) 0=_law_script 1=_law_spot 2=_law_told 3=_law_spins_here 4=_law_vector -/
def d_law : Df := ⟨1, 5, (.cons (.for_ (.rng (.cons (.blt .max (.cons (.cst (.int 1)) (.cons (.blt .min (.cons (.cst (.int 3)) (.cons (.blt .len (.cons (.var 0) .nil)) .nil))) .nil))) .nil)) (.nm 1) (.cons (.asgP (.nm 3) (.call 20 (.cons (.var 0) (.cons (.var 1) .nil)))) (.cons (.ite (.or (.nt (.call 29 (.cons (.var 3) .nil))) (.nt (.call 29 (.cons (.var 3) .nil)))) (.cons (.ret (.cst (.bl false))) .nil) .nil) .nil))) (.cons (.asg (.nm 2) (.bin .add (.comp [4] (.seq (.tup (.cons (.tup (.cons (.cst (.int 1)) (.cons (.cst (.int 4)) (.cons (.cst (.int 5)) .nil)))) (.cons (.tup (.cons (.cst (.int 2)) (.cons (.cst (.int 4)) (.cons (.cst (.int 5)) .nil)))) (.cons (.tup (.cons (.cst (.int 0)) (.cons (.cst (.int 1)) (.cons (.cst (.int 0)) .nil)))) .nil))))) (.nm 4) (.cst (.bl true)) (.call 15 (.cons (.tup (.cons (.cst (.int 3)) (.cons (.neg (.cst (.int 1))) (.cons (.cst (.int 2)) .nil)))) (.cons (.var 4) .nil)))) (.lst (.cons (.call 15 (.cons (.tup (.cons (.cst (.int 7)) .nil)) (.cons (.tup (.cons (.cst (.int 5)) .nil)) .nil))) .nil)))) (.cons (.ite (.or (.cmp .ne (.var 2) (.lst (.cons (.cst (.int 9)) (.cons (.cst (.int 12)) (.cons (.neg (.cst (.int 1))) (.cons (.cst (.int 35)) .nil)))))) (.cmp .ne (.call 18 (.cons (.tup (.cons (.cst (.int 1)) (.cons (.cst (.int 2)) (.cons (.neg (.cst (.int 1))) .nil)))) (.cons (.tup (.cons (.tup (.cons (.cst (.int 0)) (.cons (.cst (.int 1)) .nil))) (.cons (.tup (.cons (.cst (.int 5)) (.cons (.neg (.cst (.int 3))) .nil))) .nil))) (.cons (.cst (.int 1)) .nil)))) (.tup (.cons (.neg (.cst (.int 4))) (.cons (.cst (.int 5)) .nil))))) (.cons (.ret (.cst (.bl false))) .nil) .nil) (.cons (.ite (.cmp .ne (.call 18 (.cons (.tup (.cons (.cst (.int 4)) .nil)) (.cons (.tup .nil) (.cons (.cst (.int 2)) .nil)))) (.tup (.cons (.cst (.int 4)) (.cons (.cst (.int 0)) (.cons (.cst (.int 0)) .nil))))) (.cons (.ret (.cst (.bl false))) .nil) .nil) (.cons (.ret (.and (.cmp .eq (.call 19 (.cons (.tup (.cons (.cst (.int 7)) (.cons (.cst (.int 1)) (.cons (.cst (.int 2)) .nil)))) (.cons (.tup (.cons (.cst (.int 2)) (.cons (.cst (.int 0)) .nil))) (.cons (.cst (.int 3)) .nil)))) (.tup (.cons (.cst (.int 7)) (.cons (.cst (.int 2)) (.cons (.cst (.int 0)) (.cons (.cst (.int 1)) .nil)))))) (.cmp .eq (.call 16 (.cons (.tup (.cons (.cst (.int 1)) (.cons (.cst (.int 2)) .nil))) (.cons (.tup (.cons (.cst (.int 3)) (.cons (.neg (.cst (.int 2))) .nil))) .nil))) (.tup (.cons (.cst (.int 4)) (.cons (.cst (.int 0)) .nil)))))) .nil)))))⟩
def dfs : List Df := [d_is_integer, d_is_short, d_is_within, d_require_within, d_is_form_in, d_is_any_form, d_is_vector_in, d_at_in, d_plus_in, d_times_in, d_constant_form, d_put_into, d_moved_to, d_require_many, d_require_any_form, d_value_at, d_plus, d_times, d_put_in, d_moved, d__law_spins, d__law_spin, d__law_among, d__law_at, d__law_put, d__law_form_drawn, d__law_many_drawn, d__law_plain_form, d__law_vector_drawn, d__law_right, d__law_moved_right, d_law]
abbrev T : Nat → Option Df := fun i => dfs[i]?
abbrev fuel : Nat := 100000
abbrev lev : Nat := 9
abbrev li : Nat := 31
abbrev n_is_integer : Nat := 0
abbrev n_is_short : Nat := 1
abbrev n_is_within : Nat := 2
abbrev n_require_within : Nat := 3
abbrev n_is_form_in : Nat := 4
abbrev n_is_any_form : Nat := 5
abbrev n_is_vector_in : Nat := 6
abbrev n_at_in : Nat := 7
abbrev n_plus_in : Nat := 8
abbrev n_times_in : Nat := 9
abbrev n_constant_form : Nat := 10
abbrev n_put_into : Nat := 11
abbrev n_moved_to : Nat := 12
abbrev n_require_many : Nat := 13
abbrev n_require_any_form : Nat := 14
abbrev n_value_at : Nat := 15
abbrev n_plus : Nat := 16
abbrev n_times : Nat := 17
abbrev n_put_in : Nat := 18
abbrev n_moved : Nat := 19
abbrev n__law_spins : Nat := 20
abbrev n__law_spin : Nat := 21
abbrev n__law_among : Nat := 22
abbrev n__law_at : Nat := 23
abbrev n__law_put : Nat := 24
abbrev n__law_form_drawn : Nat := 25
abbrev n__law_many_drawn : Nat := 26
abbrev n__law_plain_form : Nat := 27
abbrev n__law_vector_drawn : Nat := 28
abbrev n__law_right : Nat := 29
abbrev n__law_moved_right : Nat := 30
abbrev n_law : Nat := 31
abbrev SP (p : Nat) : Spec := spSpin 21 p
abbrev P (sp : Spec) (k : Nat) := PH sp fuel T k
abbrev SpL (sp : Spec) := SpC 21 sp
theorem off {sp : Spec} [h : SpL sp] {f : Nat} (hf : f ≠ 21) : sp f = none := h.off f hf
instance {sp : Spec} [h : SpL sp] : MonoC sp := h.toMonoC
end L_k01
end

section
set_option Elab.async false
set_option linter.all false
set_option maxRecDepth 100000
namespace L_k01
open Q
local macro_rules | `(tactic| array_get_dec) => `(tactic| simp only [List.map_cons, List.map_nil, List.length_cons, List.length_nil, List.cons_append, List.nil_append, List.append_nil, Nat.reduceAdd, Nat.reduceSub, Nat.zero_add, Nat.sub_self, List.replicate_zero, List.replicate_succ, List.reduceReplicate, valR_d, valR_l, valR_m])
local macro_rules | `(tactic| decreasing_trivial) => `(tactic| (repeat (first | (first | refine e_var ?_ | refine g_s ?_ | refine g_0 ?_ | refine e_cst ?_ | refine a_cons PHm ?_ | refine r_cons PHm ?_ | refine a_nil PHm ?_ | refine r_nil PHm ?_ | refine e_cmp PHm ?_ | refine e_bin PHm ?_ | refine e_call PHm ?_ | refine e_blt PHm ?_ | refine e_idx PHm ?_ | refine e_op1 PHm ?_ | refine e_op2 PHm ?_ | refine b_bl ?_ | refine e_tup PHm ?_ | refine e_lst PHm ?_ | refine s_asg PHm ?_ | refine k_nm ?_ | refine n_nx ?_ | refine s_ret PHm ?_ | refine s_ite PHm ?_ | refine f_rt ?_ | refine n_rt ?_ | refine if_t ?_ | refine if_f ?_ | refine tq_self ?_ | refine e_and PHm ?_ | refine e_or PHm ?_ | refine e_nt PHm ?_ | refine e_ite PHm ?_ | refine e_isin PHm ?_ | refine e_comp PHm ?_ | refine e_slcA PHm rfl ?_ | refine e_slcB PHm rfl ?_ | refine e_slc PHm rfl rfl ?_ | refine i_int ?_ | refine e_chain PHm ?_ | refine e_neg PHm ?_ | refine e_meth PHm ?_ | refine e_dict0 PHm ?_ | refine a_star PHm ?_ | refine a_plc PHm ?_ | refine w_seq PHm ?_ | refine w_rng PHm ?_ | refine w_zip PHm ?_ | refine w_enum PHm ?_ | refine ss_nil PHm ?_ | refine s_asgP PHm ?_ | refine s_par PHm ?_ | refine s_put PHm ?_ | refine s_expr PHm ?_ | refine s_retN PHm ?_ | refine s_for PHm ?_ | refine s_pass PHm ?_ | refine s_brk PHm ?_ | refine s_cont PHm ?_ | refine n_bk ?_ | refine n_ct ?_ | refine f_nx ?_ | refine fk_nx ?_ | refine fk_ct ?_ | refine fk_bk ?_ | refine fk_rt ?_ | refine p_l ?_ | refine p_d ?_ | refine p_m ?_ | refine k_cons ?_ | refine k_nil ?_ | refine k_tp ?_ | refine k_scons ?_ | refine k_snil ?_ | refine t_turn PHm ?_) | (first | refine l_add ?_ | refine l_sub ?_ | refine l_lt ?_ | refine l_le ?_ | refine l_gt ?_ | refine l_ge ?_ | refine l_eq ?_ | refine l_ne ?_ | refine l_is ?_ | refine l_isn ?_ | refine l_int ?_ | refine l_intb ?_ | refine l_abs ?_ | refine l_max ?_ | refine l_min ?_ | refine l_gcd ?_ | refine l_lenT ?_ | refine l_lenV ?_ | refine l_lenL ?_ | refine l_lenR ?_ | refine l_tupL ?_ | refine l_tupV ?_ | refine l_tupT ?_ | refine l_lstL ?_ | refine l_lstV ?_ | refine l_lstT ?_ | refine l_slcT ?_ | refine l_slcV ?_ | refine l_slcL ?_ | refine l_itT ?_ | refine l_itV ?_ | refine l_itL ?_ | refine l_zipT ?_ | refine l_zipVV ?_ | refine l_zipLL ?_ | refine l_zipVL ?_ | refine l_zipLV ?_ | refine l_zipTV ?_ | refine l_zipTL ?_ | refine l_zipVT ?_ | refine l_zipLT ?_ | refine l_enL ?_ | refine l_enV ?_ | refine l_eqL ?_ | refine l_eqV ?_ | refine l_neBB ?_ | refine few (Nat.le_of_ble_eq_true rfl) ?_ | refine l_addLL (Nat.le_of_ble_eq_true rfl) ?_ | refine l_addVL (Nat.le_of_ble_eq_true rfl) ?_ | refine l_addLV (Nat.le_of_ble_eq_true rfl) ?_ | refine l_addVV (Nat.le_of_ble_eq_true rfl) ?_)); try simp only [List.set_cons_succ, List.set_cons_zero, valR_d, valR_l, valR_m, wipe]))
local macro_rules | `(tactic| decreasing_tactic) => `(tactic| (repeat (first | (first | (first | refine e_var ?_ | refine g_s ?_ | refine g_0 ?_ | refine e_cst ?_ | refine a_cons PHm ?_ | refine r_cons PHm ?_ | refine a_nil PHm ?_ | refine r_nil PHm ?_ | refine e_cmp PHm ?_ | refine e_bin PHm ?_ | refine e_call PHm ?_ | refine e_blt PHm ?_ | refine e_idx PHm ?_ | refine e_op1 PHm ?_ | refine e_op2 PHm ?_ | refine b_bl ?_ | refine e_tup PHm ?_ | refine e_lst PHm ?_ | refine s_asg PHm ?_ | refine k_nm ?_ | refine n_nx ?_ | refine s_ret PHm ?_ | refine s_ite PHm ?_ | refine f_rt ?_ | refine n_rt ?_ | refine if_t ?_ | refine if_f ?_ | refine tq_self ?_ | refine e_and PHm ?_ | refine e_or PHm ?_ | refine e_nt PHm ?_ | refine e_ite PHm ?_ | refine e_isin PHm ?_ | refine e_comp PHm ?_ | refine e_slcA PHm rfl ?_ | refine e_slcB PHm rfl ?_ | refine e_slc PHm rfl rfl ?_ | refine i_int ?_ | refine e_chain PHm ?_ | refine e_neg PHm ?_ | refine e_meth PHm ?_ | refine e_dict0 PHm ?_ | refine a_star PHm ?_ | refine a_plc PHm ?_ | refine w_seq PHm ?_ | refine w_rng PHm ?_ | refine w_zip PHm ?_ | refine w_enum PHm ?_ | refine ss_nil PHm ?_ | refine s_asgP PHm ?_ | refine s_par PHm ?_ | refine s_put PHm ?_ | refine s_expr PHm ?_ | refine s_retN PHm ?_ | refine s_for PHm ?_ | refine s_pass PHm ?_ | refine s_brk PHm ?_ | refine s_cont PHm ?_ | refine n_bk ?_ | refine n_ct ?_ | refine f_nx ?_ | refine fk_nx ?_ | refine fk_ct ?_ | refine fk_bk ?_ | refine fk_rt ?_ | refine p_l ?_ | refine p_d ?_ | refine p_m ?_ | refine k_cons ?_ | refine k_nil ?_ | refine k_tp ?_ | refine k_scons ?_ | refine k_snil ?_ | refine t_turn PHm ?_) | refine ss_cons PHm ?_) | (first | refine l_add ?_ | refine l_sub ?_ | refine l_lt ?_ | refine l_le ?_ | refine l_gt ?_ | refine l_ge ?_ | refine l_eq ?_ | refine l_ne ?_ | refine l_is ?_ | refine l_isn ?_ | refine l_int ?_ | refine l_intb ?_ | refine l_abs ?_ | refine l_max ?_ | refine l_min ?_ | refine l_gcd ?_ | refine l_lenT ?_ | refine l_lenV ?_ | refine l_lenL ?_ | refine l_lenR ?_ | refine l_tupL ?_ | refine l_tupV ?_ | refine l_tupT ?_ | refine l_lstL ?_ | refine l_lstV ?_ | refine l_lstT ?_ | refine l_slcT ?_ | refine l_slcV ?_ | refine l_slcL ?_ | refine l_itT ?_ | refine l_itV ?_ | refine l_itL ?_ | refine l_zipT ?_ | refine l_zipVV ?_ | refine l_zipLL ?_ | refine l_zipVL ?_ | refine l_zipLV ?_ | refine l_zipTV ?_ | refine l_zipTL ?_ | refine l_zipVT ?_ | refine l_zipLT ?_ | refine l_enL ?_ | refine l_enV ?_ | refine l_eqL ?_ | refine l_eqV ?_ | refine l_neBB ?_ | refine few (Nat.le_of_ble_eq_true rfl) ?_ | refine l_addLL (Nat.le_of_ble_eq_true rfl) ?_ | refine l_addVL (Nat.le_of_ble_eq_true rfl) ?_ | refine l_addLV (Nat.le_of_ble_eq_true rfl) ?_ | refine l_addVV (Nat.le_of_ble_eq_true rfl) ?_)); try simp only [List.set_cons_succ, List.set_cons_zero, valR_d, valR_l, valR_m, wipe]))
/-! the laws' own draws and sums -/
section
variable {p k : Nat} {M : Ar} {R : Rv → Ar → Prop} {X : Nat → D → Ar → Prop}
theorem hSpin : dfs[n__law_spin]? = some dSpin := rfl
theorem hAmong : T n__law_among = some (dAmong n__law_spin) := rfl
theorem among {items : List D} (hM : M[p]? = some .spn) (hne : 0 < items.length) (hl : items.length ≤ line) (q : ∀ d, d ∈ items → R (.d d) M) : P (SP p) (k + 2) n__law_among [.ref p, .vl items] M R X := among_run hAmong (by decide) hM hne hl q
theorem spin {t : Int} (hM : M[p]? = some .spn) (h0 : 0 < t) (hb : t ≤ 2 ^ 200) (q : ∀ r : Int, 0 ≤ r → r < t → R (.d (.int r)) M) : P (SP p) (k + 1) n__law_spin [.ref p, .int t] M R X :=
  ph_spin hM h0 (Nat.le_trans (m := 2 ^ 200) (by omega) (Nat.pow_le_pow_right (by decide) (by decide))) q
end
/-- the law's call of a look that holds for all draws -/
theorem right_call {k f n p : Nat} {N : Ar} {s : Sp} {R : Rv → Ar → Prop} {X : Nat → D → Ar → Prop} (hR : ∀ (p : Nat) (M : Ar), M[p]? = some .spn → P (SP p) k f [.ref p] M (fun r M' => r = .d (.bl true) ∧ M' = M) fun _ _ _ => False)
    (hN : N[p]? = some .spn) (hs : SpOk n s) (hn : n + cPhi fuel dfs k ≤ BIG) (q : ∀ s', SpOk (n + cPhi fuel dfs k) s' → R (.d (.bl true)) (N.set p (spO s'))) : PH spNone fuel T k f [.ref p] (N.set p (spO s)) R X := by
  refine ph_drawn (dfs := dfs) (fs := n__law_spin) hSpin hN hs hn (hR p N hN) fun r M' s' h1 h2 h3 => ?_
  obtain ⟨rfl, rfl⟩ := h3
  exact q s' h2
theorem spn_push {M : Ar} {s : Sp} : M ++ [Ob.lst [.int s.1, .int s.2.1, .int s.2.2]] = (M ++ [Ob.spn]).set M.length (spO s) := by
  rw [List.set_append_right _ _ (Nat.le_refl _), Nat.sub_self]; rfl
/-! what values are: the program's looks -/
section
variable {sp : Spec} [SpL sp] {k : Nat} {M : Ar} {R : Rv → Ar → Prop} {X : Nat → D → Ar → Prop}
theorem is_integer_run {d : D} (h : Pur d) (q : R (.d (.bl (intD d))) M) : P sp (k+1) n_is_integer [d] M R X := by
  refine ph_b (d := d_is_integer) (off (by decide)) rfl rfl ?_
  unfold d_is_integer
  array_get_dec
  decreasing_tactic
  refine y_int h ?_
  decreasing_tactic
  cases d <;> (first | (decreasing_tactic; first | exact q | (refine y_bool h ?_; decreasing_tactic; exact q)))
theorem is_short_run {d : D} (h : Pur d) (q : R (.d (.bl (shortD d))) M) : P sp (k+2) n_is_short [d] M R X := by
  refine ph_b (d := d_is_short) (off (by decide)) rfl rfl ?_
  unfold d_is_short
  array_get_dec
  decreasing_tactic
  refine is_integer_run h ?_
  decreasing_tactic
  cases d with
  | int i =>
    decreasing_tactic
    have q : R (.d (.bl (decide (-1000000000000000000000000000000000000000000000000000000000000 < i) && decide (i < 1000000000000000000000000000000000000000000000000000000000000)))) M := q
    refine if_b (fun e => ?_) (fun e => ?_)
    · rw [e] at q
      decreasing_tactic
      exact q
    · rw [e] at q
      decreasing_tactic
      exact q
  | _ => decreasing_tactic; exact q
theorem is_form_in_run {d : D} {m : Int} (h : Pur d) (hl : ∀ ds, d = .tup ds → ds.length ≤ line) (q : R (.d (.bl (formD m d))) M) : P sp (k+3) n_is_form_in [.int m, d] M R X := by
  refine ph_b (d := d_is_form_in) (off (by decide)) rfl rfl ?_
  unfold d_is_form_in
  array_get_dec
  decreasing_tactic
  refine y_tup h ?_
  decreasing_tactic
  cases d with
  | tup ds =>
    have hl := hl ds rfl
    have hr : ∀ e ∈ ds, Pur e := Purs.mem h
    decreasing_tactic
    have q : R (.d (.bl (decide ((ds.length : Int) = m + 1) && ds.all shortD))) M := q
    refine if_b (fun e => ?_) (fun e => ?_)
    · rw [e] at q
      decreasing_tactic
      refine comp_map PHm (fun d => .bl (shortD d)) hl (fun e he R q => ?_) ?_
      · decreasing_tactic
        refine is_short_run (hr e he) ?_
        decreasing_tactic
        exact q
      · decreasing_tactic
        refine l_all ?_
        decreasing_tactic
        exact q
    · rw [e] at q
      decreasing_tactic
      exact q
  | _ => decreasing_tactic; exact q
/-- sizes of what is looked at -/
def Sz (d : D) : Prop := ∀ ds, d = .tup ds → ds.length ≤ line
theorem require_many_run {m : Int} (h0 : 0 ≤ m) (h1 : m ≤ 14) (q : R (.d .non) M) : P sp (k+4) n_require_many [.int m] M R X := by
  refine ph_b (d := d_require_many) (off (by decide)) rfl rfl ?_
  unfold d_require_many
  array_get_dec
  decreasing_tactic
  refine ph_b (d := d_require_within) (off (by decide)) rfl rfl ?_
  unfold d_require_within
  array_get_dec
  decreasing_tactic
  refine ph_b (d := d_is_within) (off (by decide)) rfl rfl ?_
  unfold d_is_within
  array_get_dec
  decreasing_tactic
  refine is_integer_run rfl ?_
  decreasing_tactic
  refine if_y h0 ?_
  decreasing_tactic
  rw [decide_eq_true h1]
  decreasing_tactic
  exact q
end
/-! sums of lists of whole numbers -/
def addL (a b : List Int) : List Int := (a.zip b).map fun p => p.1 + p.2
def sclL (n : Int) (a : List Int) : List Int := a.map (n * ·)
def putL (f0 : Int) (ff : List Int) (fs : List (List Int)) (m : Nat) : List Int := (ff.zip fs).foldl (fun acc p => addL acc (sclL p.1 p.2)) (f0 :: List.replicate m 0)
theorem addL_len {a b : List Int} (h : a.length = b.length) : (addL a b).length = a.length := by unfold addL; simp; omega
theorem sclL_len {n : Int} {a : List Int} : (sclL n a).length = a.length := by unfold sclL; simp
theorem addL_zero : ∀ {a b : List Int}, a.length = b.length → addL a (sclL 0 b) = a
  | [], _, _ => rfl
  | x :: a, [], h => by simp at h
  | x :: a, y :: b, h => by
    show (x + 0 * y) :: addL a (sclL 0 b) = _
    rw [addL_zero (by simpa using h), Int.zero_mul, Int.add_zero]
theorem fold_len {m : Nat} : ∀ {l : List (Int × List Int)} {acc : List Int}, acc.length = m → (∀ p ∈ l, p.2.length = m) → (l.foldl (fun acc p => addL acc (sclL p.1 p.2)) acc).length = m
  | [], acc, h, _ => h
  | p :: l, acc, h, hl => fold_len (l := l) (by rw [addL_len (by rw [sclL_len, h, hl p List.mem_cons_self])]; exact h) fun q hq => hl q (List.mem_cons_of_mem _ hq)
theorem putL_len {f0 : Int} {ff : List Int} {fs : List (List Int)} {m : Nat} (h : ∀ r ∈ fs, r.length = m + 1) : (putL f0 ff fs m).length = m + 1 := fold_len (by simp) fun p hp => h _ (List.of_mem_zip hp).2
theorem dot_addL : ∀ {a b v : List Int}, a.length = b.length → dot (addL a b) v = dot a v + dot b v
  | [], [], v, _ => by unfold addL dot; simp
  | [], _ :: _, _, h => by simp at h
  | _ :: _, [], _, h => by simp at h
  | x :: a, y :: b, [], _ => by unfold addL dot; simp
  | x :: a, y :: b, w :: v, h => by
    show dot ((x + y) :: addL a b) (w :: v) = _
    rw [dot_cons, dot_cons, dot_cons, dot_addL (by simpa using h), Int.add_mul]; omega
theorem dot_sclL {n : Int} : ∀ {a v : List Int}, dot (sclL n a) v = n * dot a v
  | [], v => by unfold sclL dot; simp
  | x :: a, [] => by unfold sclL dot; simp
  | x :: a, w :: v => by
    show dot ((n * x) :: sclL n a) (w :: v) = _
    rw [dot_cons, dot_cons, dot_sclL, Int.mul_add, Int.mul_assoc]
theorem dot_zeros : ∀ {m : Nat} {v : List Int}, dot (List.replicate m 0) v = 0
  | 0, v => by unfold dot; simp
  | m + 1, [] => by unfold dot; simp
  | m + 1, w :: v => by rw [List.replicate_succ, dot_cons, dot_zeros]; simp
theorem dot_fold {m : Nat} {v : List Int} : ∀ {ff : List Int} {fs : List (List Int)} {acc : List Int}, acc.length = m → (∀ r ∈ fs, r.length = m) → dot ((ff.zip fs).foldl (fun acc p => addL acc (sclL p.1 p.2)) acc) v = dot acc v + dot ff (fs.map (dot · v))
  | [], fs, acc, _, _ => by unfold dot; simp
  | x :: ff, [], acc, _, _ => by show dot acc v = dot acc v + dot (x :: ff) []; unfold dot; simp
  | x :: ff, r :: fs, acc, h, hr => by
    have hl : (sclL x r).length = m := by rw [sclL_len]; exact hr r List.mem_cons_self
    show dot ((ff.zip fs).foldl _ (addL acc (sclL x r))) v = dot acc v + dot (x :: ff) (dot r v :: fs.map (dot · v))
    rw [dot_fold (by rw [addL_len (h.trans hl.symm)]; exact h) fun r hr' => hr r (List.mem_cons_of_mem _ hr'), dot_cons, dot_addL (h.trans hl.symm), dot_sclL]; omega
theorem dot_putL {f0 v0 : Int} {ff v : List Int} {fs : List (List Int)} {m : Nat} (h : ∀ r ∈ fs, r.length = m + 1) : dot (putL f0 ff fs m) (v0 :: v) = dot (f0 :: ff) (v0 :: fs.map (dot · (v0 :: v))) := by
  unfold putL
  rw [dot_fold (by simp) h, dot_cons, dot_cons, dot_zeros]; omega
theorem dot_ext : ∀ {a b : List Int}, a.length = b.length → (∀ v : List Int, v.length = a.length → dot a v = dot b v) → a = b
  | [], [], _, _ => rfl
  | [], _ :: _, h, _ => by simp at h
  | _ :: _, [], h, _ => by simp at h
  | x :: a, y :: b, h, q => by
    have e1 := q (1 :: List.replicate a.length 0) (by simp)
    have z : ∀ l : List Int, dot l (List.replicate a.length 0) = 0 := fun l => by
      have c : ∀ (l : List Int) (n : Nat), dot l (List.replicate n 0) = 0 := fun l => by
        induction l with
        | nil => intro n; unfold dot; simp
        | cons u l ih =>
          intro n
          cases n with
          | zero => unfold dot; simp
          | succ n => rw [List.replicate_succ, dot_cons, ih]; simp
      exact c l _
    rw [dot_cons, dot_cons, z, z] at e1
    have e1 : x = y := by omega
    subst e1
    have t : a = b := dot_ext (by simpa using h) fun v hv => by
      have := q (0 :: v) (by simp [hv])
      rw [dot_cons, dot_cons] at this
      omega
    rw [t]
/-- putting in twice is putting in once -/
theorem putL_twice {f0 : Int} {ff : List Int} {fs gs : List (List Int)} {m l : Nat} {h : List Int → List Int} (hh : ∀ f0 ff, h (f0 :: ff) = putL f0 ff gs l) (hf : ∀ r ∈ fs, r.length = m + 1) (hg : ∀ r ∈ gs, r.length = l + 1) :
    putL f0 ff (fs.map h) l = h (putL f0 ff fs m) := by
  have cons : ∀ {a : List Int} {n : Nat}, a.length = n + 1 → ∃ x y, a = x :: y := fun {a n} e => by
    cases a with
    | nil => simp at e
    | cons x y => exact ⟨x, y, rfl⟩
  obtain ⟨p0, pp, hp⟩ := cons (putL_len (f0 := f0) (ff := ff) hf)
  have lh : ∀ r ∈ fs.map h, r.length = l + 1 := fun r hr => by
    obtain ⟨f, hf', rfl⟩ := List.mem_map.mp hr
    obtain ⟨x, y, rfl⟩ := cons (hf f hf')
    rw [hh]; exact putL_len hg
  refine dot_ext ?_ fun v hv => ?_
  · rw [putL_len lh, hp, hh, putL_len hg]
  · rw [putL_len lh] at hv
    obtain ⟨v0, v, rfl⟩ := cons hv
    rw [dot_putL lh, hp, hh, dot_putL hg, ← hp, dot_putL hf, List.map_map]
    congr 2
    apply List.map_congr_left
    intro f hf'
    obtain ⟨x, y, rfl⟩ := cons (hf f hf')
    show dot (h (x :: y)) (v0 :: v) = _
    rw [hh, dot_putL hg]
theorem addL_abs {c d : Nat} : ∀ {a b : List Int}, (∀ x ∈ a, x.natAbs ≤ c) → (∀ x ∈ b, x.natAbs ≤ d) → ∀ x ∈ addL a b, x.natAbs ≤ c + d := fun {a b} ha hb x hx => by
  unfold addL at hx
  obtain ⟨p, hp, rfl⟩ := List.mem_map.mp hx
  have h1 := ha _ (List.of_mem_zip hp).1
  have h2 := hb _ (List.of_mem_zip hp).2
  omega
theorem sclL_abs {c d : Nat} {n : Int} {a : List Int} (hn : n.natAbs ≤ c) (ha : ∀ x ∈ a, x.natAbs ≤ d) : ∀ x ∈ sclL n a, x.natAbs ≤ c * d := fun x hx => by
  unfold sclL at hx
  obtain ⟨y, hy, rfl⟩ := List.mem_map.mp hx
  rw [Int.natAbs_mul]
  exact Nat.mul_le_mul hn (ha y hy)
theorem fold_abs {c d : Nat} : ∀ {l : List (Int × List Int)} {acc : List Int} {k : Nat}, (∀ x ∈ acc, x.natAbs ≤ k) → (∀ p ∈ l, p.1.natAbs ≤ c ∧ ∀ x ∈ p.2, x.natAbs ≤ d) → ∀ x ∈ l.foldl (fun acc p => addL acc (sclL p.1 p.2)) acc, x.natAbs ≤ k + l.length * (c * d)
  | [], acc, k, h, _ => fun x hx => by have := h x hx; simpa using this
  | p :: l, acc, k, h, hl => fun x hx => by
    have hp := hl p List.mem_cons_self
    have := fold_abs (l := l) (k := k + c * d) (addL_abs h (sclL_abs hp.1 hp.2)) (fun q hq => hl q (List.mem_cons_of_mem _ hq)) x hx
    rw [List.length_cons, Nat.succ_mul]; omega
theorem putL_abs {c d m : Nat} {f0 : Int} {ff : List Int} {fs : List (List Int)} (h0 : f0.natAbs ≤ c) (hc : ∀ x ∈ ff, x.natAbs ≤ c) (hd : ∀ r ∈ fs, ∀ x ∈ r, x.natAbs ≤ d) : ∀ x ∈ putL f0 ff fs m, x.natAbs ≤ c + ff.length * (c * d) := fun x hx => by
  have := fold_abs (l := ff.zip fs) (k := c) (acc := f0 :: List.replicate m 0) (c := c) (d := d) (fun x hx => by
    rcases List.mem_cons.mp hx with rfl | hx
    · exact h0
    · rw [(List.mem_replicate.mp hx).2]; simp) (fun p hp => ⟨hc _ (List.of_mem_zip hp).1, hd _ (List.of_mem_zip hp).2⟩) x hx
  refine Nat.le_trans this (Nat.add_le_add_left (Nat.mul_le_mul_right _ ?_) _)
  rw [List.length_zip]; omega
theorem turn_get {α : Type} {new old : List α} {j : Nat} (h : j ≤ new.length) : (new.take j ++ old.drop j)[j]? = old[j]? := by
  rw [List.getElem?_append_right (by rw [List.length_take]; omega), List.length_take, Nat.min_eq_left h, Nat.sub_self, List.getElem?_drop, Nat.add_zero]
theorem turn_set {α : Type} {new old : List α} {j : Nat} {v : α} (hn : new[j]? = some v) (hj : j < old.length) : (new.take j ++ old.drop j).set j v = new.take (j + 1) ++ old.drop (j + 1) := by
  obtain ⟨h, e⟩ := List.getElem?_eq_some_iff.mp hn
  rw [List.set_append_right _ _ (by rw [List.length_take]; omega), List.length_take, Nat.min_eq_left (Nat.le_of_lt h), Nat.sub_self, List.drop_eq_getElem_cons hj, List.set_cons_zero, List.take_succ_eq_append_getElem h, e]
  simp
theorem addL_get {a b : List Int} {j : Nat} (ha : j < a.length) (hb : j < b.length) : (addL a b)[j]? = some (a[j] + b[j]) := by
  unfold addL
  rw [List.getElem?_map, (show (a.zip b)[j]? = some (a[j], b[j]) from List.getElem?_zip_eq_some.mpr ⟨List.getElem?_eq_getElem ha, List.getElem?_eq_getElem hb⟩)]; rfl
/-- entries to their places -/
def moveL (f0 : Int) (ff : List Int) (ps : List Nat) (m : Nat) : List Int := (ff.zip ps).foldl (fun acc p => acc.set (p.2 + 1) p.1) (f0 :: List.replicate m 0)
theorem move_len : ∀ {l : List (Int × Nat)} {acc : List Int}, (l.foldl (fun acc p => acc.set (p.2 + 1) p.1) acc).length = acc.length
  | [], acc => rfl
  | p :: l, acc => by rw [List.foldl_cons, move_len (l := l), List.length_set]
/-- the whole numbers of a tuple -/
def unI : D → List Int
  | .tup ds => ds.map fun d => match d with | .int i => i | _ => 0
  | _ => []
theorem unI_dI (is : List Int) : unI (dI is) = is := by
  show (is.map D.int).map _ = _
  rw [List.map_map]
  exact List.map_id'' (fun _ => rfl) is
theorem few_of {n : Nat} {ps : List Nat} (h : ∀ j, j < n → j ∈ ps) : n ≤ ps.length := by
  induction n generalizing ps with
  | zero => exact Nat.zero_le _
  | succ n ih =>
    have hn := h n (Nat.lt_succ_self n)
    have := ih (ps := ps.erase n) fun j hj => (List.mem_erase_of_ne (Nat.ne_of_lt hj)).mpr (h j (Nat.lt_succ_of_lt hj))
    rw [List.length_erase_of_mem hn] at this
    have := List.length_pos_of_mem hn
    omega
theorem Bn.abs {n : Nat} {i : Int} (h : i.natAbs ≤ 2 ^ n) : Bn n i := h
theorem mapM_ints {M : Ar} : ∀ is : List Int, (is.map D.int).mapM (toP 29 M) = some (is.map PySem.PyData.int)
  | [] => rfl
  | i :: is => by rw [List.map_cons, List.mapM_cons, mapM_ints is]; rfl
theorem any_int (j : Int) : ∀ is : List Int, ((is.map PySem.PyData.int).any fun b => PySem.PyData.eqv b (.int j)) = decide (j ∈ is)
  | [] => rfl
  | i :: is => by
    rw [List.map_cons, List.any_cons, any_int j is]
    simp only [PySem.PyData.eqv]
    by_cases h : i = j
    · subst h; simp
    · simp [h, Ne.symm h]
theorem inR_int {M : Ar} {y : Rv} {is : List Int} {j : Int} (e : asS M y = some (is.map D.int)) : inR M (.d (.int j)) y = some (decide (j ∈ is)) := by
  show (match toPR M (.d (.int j)), (asS M y).bind (fun ds => ds.mapM (toP 29 M)) with | some a, some bs => some (bs.any fun b => PySem.PyData.eqv b a) | _, _ => none) = _
  rw [e]
  show (match some (PySem.PyData.int j), (is.map D.int).mapM (toP 29 M) with | some a, some bs => some (bs.any fun b => PySem.PyData.eqv b a) | _, _ => none) = _
  rw [mapM_ints]
  exact congrArg some (any_int j is)
theorem l_inI {M : Ar} {y : Rv} {is : List Int} {j : Int} {B : Bool → Prop} (e : asS M y = some (is.map D.int)) (q : B (decide (j ∈ is))) : optP (oCmp .in_ (.d (.int j)) y M) B := l_cmp (inR_int e) q
theorem l_ninI {M : Ar} {y : Rv} {is : List Int} {j : Int} {B : Bool → Prop} (e : asS M y = some (is.map D.int)) (q : B (!decide (j ∈ is))) : optP (oCmp .nin (.d (.int j)) y M) B := by
  refine l_cmp (b := !decide (j ∈ is)) ?_ q
  show (inR M (.d (.int j)) y).map (!·) = _
  rw [inR_int e]; rfl
abbrev zI (ps : List Nat) : List Int := ps.map fun p : Nat => (p : Int)
/-! forms of whole numbers: what the program makes of them -/
section
variable {sp : Spec} [SpL sp] {k : Nat} {M : Ar} {R : Rv → Ar → Prop} {X : Nat → D → Ar → Prop}
theorem short_of {i : Int} (h : Bn 199 i) : shortD (.int i) = true := by
  have := h.both
  show (decide (-1000000000000000000000000000000000000000000000000000000000000 < i) && decide (i < 1000000000000000000000000000000000000000000000000000000000000)) = true
  rw [decide_eq_true (by omega), decide_eq_true (by omega)]; rfl
theorem formD_dI {is : List Int} {m : Int} (h : (is.length : Int) = m + 1) (hb : ∀ x ∈ is, Bn 199 x) : formD m (dI is) = true := by
  show (decide (((is.map D.int).length : Int) = m + 1) && (is.map D.int).all shortD) = true
  rw [List.length_map, decide_eq_true h, Bool.true_and, List.all_eq_true]
  intro d hd
  obtain ⟨i, hi, rfl⟩ := List.mem_map.mp hd
  exact short_of (hb i hi)
theorem form_run {is : List Int} {m : Int} (h : (is.length : Int) = m + 1) (hl : is.length ≤ 100) (hb : ∀ x ∈ is, Bn 199 x) (q : R (.d (.bl true)) M) : P sp (k+3) n_is_form_in [.int m, dI is] M R X :=
  is_form_in_run pure_dI (fun ds e => by cases e; rw [List.length_map]; unfold line; omega) (by rw [formD_dI h hb]; exact q)
theorem is_any_form_run {is : List Int} (h1 : 1 ≤ is.length) (h2 : is.length ≤ 15) (hb : ∀ x ∈ is, Bn 199 x) (q : R (.d (.bl true)) M) : P sp (k+4) n_is_any_form [dI is] M R X := by
  refine ph_b (d := d_is_any_form) (off (by decide)) rfl rfl ?_
  unfold d_is_any_form
  array_get_dec
  decreasing_tactic
  refine y_tup pure_dI ?_
  decreasing_tactic
  rw [List.length_map]
  refine if_y (by omega) ?_
  decreasing_tactic
  refine if_y (by omega) ?_
  decreasing_tactic
  rw [List.length_map]
  refine form_run (by omega) (by omega) hb ?_
  decreasing_tactic
  exact q
theorem require_any_form_run {is : List Int} (h1 : 1 ≤ is.length) (h2 : is.length ≤ 15) (hb : ∀ x ∈ is, Bn 199 x) (q : R (.d .non) M) : P sp (k+5) n_require_any_form [dI is] M R X := by
  refine ph_b (d := d_require_any_form) (off (by decide)) rfl rfl ?_
  unfold d_require_any_form
  array_get_dec
  decreasing_tactic
  refine is_any_form_run h1 h2 hb ?_
  decreasing_tactic
  exact q
theorem at_in_run {is js : List Int} {a b : Nat} (hl : is.length ≤ 1000) (hi : ∀ i ∈ is, Bn a i) (hj : ∀ j ∈ js, Bn b j) (hab : a + b < 899990) (q : R (.d (.int (dot is js))) M) : P sp (k+1) n_at_in [dI is, dI js] M R X := by
  refine ph_b (d := d_at_in) (off (by decide)) rfl rfl ?_
  unfold d_at_in
  array_get_dec
  decreasing_tactic
  rw [zip_ints]
  refine comp_map PHm (fun d => match d with | .tup [.int x, .int y] => .int (x * y) | d => d) (by simp; unfold line; omega) (fun d hd R q => ?_) ?_
  · obtain ⟨⟨x, y⟩, hp, rfl⟩ := List.mem_map.mp hd
    decreasing_tactic
    refine l_mul (mulOk_of (hi x (List.of_mem_zip hp).1) (hj y (List.of_mem_zip hp).2) hab) ?_
    decreasing_tactic
    exact q
  · decreasing_tactic
    have e : ((is.zip js).map fun p => D.tup [.int p.1, .int p.2]).map (fun d => match d with | .tup [.int x, .int y] => .int (x * y) | d => d) = ((is.zip js).map fun p => p.1 * p.2).map D.int := by
      rw [List.map_map, List.map_map]; rfl
    rw [e]
    refine l_sum ?_
    decreasing_tactic
    exact q
theorem plus_in_run {is js : List Int} (hl : is.length ≤ 1000) (q : R (.d (dI (addL is js))) M) : P sp (k+1) n_plus_in [dI is, dI js] M R X := by
  refine ph_b (d := d_plus_in) (off (by decide)) rfl rfl ?_
  unfold d_plus_in
  array_get_dec
  decreasing_tactic
  rw [zip_ints]
  refine comp_map PHm (fun d => match d with | .tup [.int x, .int y] => .int (x + y) | d => d) (by simp; unfold line; omega) (fun d hd R q => ?_) ?_
  · obtain ⟨⟨x, y⟩, hp, rfl⟩ := List.mem_map.mp hd
    decreasing_tactic
    exact q
  · decreasing_tactic
    have e : ((is.zip js).map fun p => D.tup [.int p.1, .int p.2]).map (fun d => match d with | .tup [.int x, .int y] => .int (x + y) | d => d) = (addL is js).map D.int := by
      unfold addL; rw [List.map_map, List.map_map]; rfl
    rw [e]
    exact q
theorem times_in_run {n : Int} {is : List Int} {a b : Nat} (hl : is.length ≤ 1000) (hn : Bn a n) (hi : ∀ i ∈ is, Bn b i) (hab : a + b < 899990) (q : R (.d (dI (sclL n is))) M) : P sp (k+1) n_times_in [.int n, dI is] M R X := by
  refine ph_b (d := d_times_in) (off (by decide)) rfl rfl ?_
  unfold d_times_in
  array_get_dec
  decreasing_tactic
  refine comp_map PHm (fun d => match d with | .int y => .int (n * y) | d => d) (by simp; unfold line; omega) (fun d hd R q => ?_) ?_
  · obtain ⟨y, hy, rfl⟩ := List.mem_map.mp hd
    decreasing_tactic
    refine l_mul (mulOk_of hn (hi y hy) hab) ?_
    decreasing_tactic
    exact q
  · decreasing_tactic
    have e : (is.map D.int).map (fun d => match d with | .int y => D.int (n * y) | d => d) = (sclL n is).map D.int := by
      unfold sclL; rw [List.map_map, List.map_map]; rfl
    rw [e]
    exact q
theorem flat_int (n : Nat) (v : Int) : (List.replicate n [D.int v]).flatten = (List.replicate n v).map D.int := by
  induction n with
  | zero => rfl
  | succ n ih => rw [List.replicate_succ, List.flatten_cons, ih]; rfl
theorem constant_form_run {n : Int} {m : Nat} (hm : m ≤ 1000) (q : R (.d (dI (n :: List.replicate m 0))) M) : P sp (k+1) n_constant_form [.int n, .int (m : Nat)] M R X := by
  refine ph_b (d := d_constant_form) (off (by decide)) rfl rfl ?_
  unfold d_constant_form
  array_get_dec
  decreasing_tactic
  refine l_mulL ⟨by omega, by omega, by simp; unfold line; omega⟩ ?_
  decreasing_tactic
  refine l_asS rfl ?_
  decreasing_tactic
  rw [flat_int, Int.toNat_natCast]
  refine few (by simp; unfold line; omega) ?_
  decreasing_tactic
  rw [List.append_nil]
  exact q
theorem require_within_run {v l h : Int} (h1 : l ≤ v) (h2 : v ≤ h) (q : R (.d .non) M) : P sp (k+3) n_require_within [.int v, .int l, .int h] M R X := by
  refine ph_b (d := d_require_within) (off (by decide)) rfl rfl ?_
  unfold d_require_within
  array_get_dec
  decreasing_tactic
  refine ph_b (d := d_is_within) (off (by decide)) rfl rfl ?_
  unfold d_is_within
  array_get_dec
  decreasing_tactic
  refine is_integer_run rfl ?_
  decreasing_tactic
  refine if_y h1 ?_
  decreasing_tactic
  rw [decide_eq_true h2]
  decreasing_tactic
  exact q
theorem put_into_run {f0 : Int} {ff : List Int} {fs : List (List Int)} {m a b : Nat} (hm : m ≤ 100) (hl : ff.length ≤ 100) (hr : ∀ r ∈ fs, r.length = m + 1) (ba : ∀ x ∈ ff, Bn a x) (bb : ∀ r ∈ fs, ∀ x ∈ r, Bn b x) (hab : a + b < 899990)
    (q : R (.d (dI (putL f0 ff fs m))) M) : P sp (k+2) n_put_into [dI (f0 :: ff), .tup (dR fs), .int (m : Nat)] M R X := by
  refine ph_b (d := d_put_into) (off (by decide)) rfl rfl ?_
  unfold d_put_into
  array_get_dec
  decreasing_tactic
  refine l_idxI (by omega) (by simp) ?_
  decreasing_tactic
  refine constant_form_run (by omega) ?_
  decreasing_tactic
  rw [List.map_cons, cut1, zip_rows]
  refine for_st PHm (fun i e M' => ∃ x4 x5, e = [some (dI (f0 :: ff)), some (.tup (dR fs)), some (.int (m : Nat)), some (dI (((ff.zip fs).take i).foldl (fun acc p => addL acc (sclL p.1 p.2)) (f0 :: List.replicate m 0))), x4, x5] ∧ M' = M) (by simp; unfold line; omega) ⟨none, none, rfl, rfl⟩ ?_ ?_
  · rintro i d e M' hd ⟨x4, x5, rfl, rfl⟩
    rw [List.getElem?_map] at hd
    obtain ⟨⟨x, r⟩, hp, rfl⟩ := Option.map_eq_some_iff.mp hd
    have hz := List.of_mem_zip (List.mem_of_getElem? hp)
    have hi := (List.getElem?_eq_some_iff.mp hp).1
    have he := (List.getElem?_eq_some_iff.mp hp).2
    rw [List.take_succ_eq_append_getElem hi, he, List.foldl_append]
    have la := fold_len (l := (ff.zip fs).take i) (acc := f0 :: List.replicate m 0) (m := m + 1) (by simp) fun p hp => hr _ (List.of_mem_zip (List.mem_of_mem_take hp)).2
    generalize ((ff.zip fs).take i).foldl (fun acc p => addL acc (sclL p.1 p.2)) (f0 :: List.replicate m 0) = acc at la ⊢
    show optP _ _
    decreasing_tactic
    refine if_nd (fun e => ?_) (fun e => ?_)
    · decreasing_tactic
      refine ⟨some (.int x), some (dI r), ?_, by first | rfl | trivial⟩
      show _ = [_, _, _, some (dI (addL acc (sclL x r))), _, _]
      rw [show addL acc (sclL x r) = acc from by rw [e]; exact addL_zero (la.trans (hr r hz.2).symm)]
    · decreasing_tactic
      refine times_in_run (by rw [hr r hz.2]; omega) (ba x hz.1) (bb r hz.2) hab ?_
      decreasing_tactic
      refine plus_in_run (by omega) ?_
      decreasing_tactic
      exact ⟨_, _, rfl, by first | rfl | trivial⟩
  · rintro e M' ⟨x4, x5, rfl, rfl⟩
    decreasing_tactic
    rw [List.length_map, List.take_length]
    exact q
theorem law_put_run {f0 : Int} {ff : List Int} {fs : List (List Int)} {m a b : Nat} (hm : m ≤ 100) (hl : ff.length ≤ 100) (hr : ∀ r ∈ fs, r.length = m + 1) (ba : ∀ x ∈ ff, Bn a x) (bb : ∀ r ∈ fs, ∀ x ∈ r, Bn b x) (hab : a + b < 899990)
    (q : R (.d (dI (putL f0 ff fs m))) M) : P sp (k+1) n__law_put [dI (f0 :: ff), .tup (dR fs), .int (m : Nat)] M (fun r M' => TQ M r M' R) X := by
  refine ph_b (d := d__law_put) (off (by decide)) rfl rfl ?_
  unfold d__law_put
  array_get_dec
  decreasing_tactic
  refine l_idxI (by omega) (by simp) ?_
  decreasing_tactic
  refine l_mulL ⟨by omega, by omega, by simp; unfold line; omega⟩ ?_
  decreasing_tactic
  rw [flat_int, Int.toNat_natCast]
  refine l_addLL (by simp; unfold line; omega) ?_
  decreasing_tactic
  rw [List.map_cons, cut1, zip_rows]
  have e0 : [D.int ((f0 :: ff).getD (0 : Int).toNat 0)] ++ (List.replicate m 0).map D.int = (f0 :: List.replicate m 0).map D.int := rfl
  rw [e0]
  refine for_st PHm (fun i e M' => ∃ x4 x5 x6, e = [some (dI (f0 :: ff)), some (.tup (dR fs)), some (.int (m : Nat)), some (.ref M.length), x4, x5, x6] ∧ M' = M ++ [.lst ((((ff.zip fs).take i).foldl (fun acc p => addL acc (sclL p.1 p.2)) (f0 :: List.replicate m 0)).map D.int)]) (by simp; unfold line; omega) ⟨none, none, none, rfl, rfl⟩ ?_ ?_
  · rintro i d e M' hd ⟨x4, x5, x6, rfl, rfl⟩
    rw [List.getElem?_map] at hd
    obtain ⟨⟨x, r⟩, hp, rfl⟩ := Option.map_eq_some_iff.mp hd
    have hz := List.of_mem_zip (List.mem_of_getElem? hp)
    have hi := (List.getElem?_eq_some_iff.mp hp).1
    have he := (List.getElem?_eq_some_iff.mp hp).2
    rw [List.take_succ_eq_append_getElem hi, he, List.foldl_append]
    have la := fold_len (l := (ff.zip fs).take i) (acc := f0 :: List.replicate m 0) (m := m + 1) (by simp) fun p hp => hr _ (List.of_mem_zip (List.mem_of_mem_take hp)).2
    generalize ((ff.zip fs).take i).foldl (fun acc p => addL acc (sclL p.1 p.2)) (f0 :: List.replicate m 0) = acc at la ⊢
    have lr := hr r hz.2
    show optP _ _
    decreasing_tactic
    refine l_rng1 (small_of (by omega) (by omega)) ?_
    refine for_st PHm (fun j e M' => ∃ x6, e = [some (dI (f0 :: ff)), some (.tup (dR fs)), some (.int (m : Nat)), some (.ref M.length), some (.int x), some (dI r), x6] ∧ M' = M ++ [.lst (((addL acc (sclL x r)).take j ++ acc.drop j).map D.int)]) (by rw [rng_len]; unfold line; omega) ⟨x6, rfl, by simp⟩ ?_ ?_
    · rintro j d e M' hd ⟨x6, rfl, rfl⟩
      obtain ⟨rfl, hj⟩ := rng_get hd
      have ls : (addL acc (sclL x r)).length = m + 1 := by rw [addL_len (by rw [sclL_len]; omega)]; exact la
      decreasing_tactic
      have hj1 : j < acc.length := by omega
      have hj2 : j < r.length := by omega
      have cl : (((addL acc (sclL x r)).take j ++ acc.drop j).map D.int).length = m + 1 := by simp; omega
      refine l_idxP push_get0 (d := .int acc[j]) (atD_nat (by omega) ?_) ?_
      · rw [show (0 + (j : Int)).toNat = j by omega, List.getElem?_map, turn_get (by omega), List.getElem?_eq_getElem hj1]; rfl
      decreasing_tactic
      refine l_idxT (d := .int r[j]) (atD_nat (by omega) ?_) ?_
      · rw [show (0 + (j : Int)).toNat = j by omega, List.getElem?_map, List.getElem?_eq_getElem hj2]; rfl
      decreasing_tactic
      refine l_mul (mulOk_of (ba x hz.1) (bb r hz.2 _ (List.getElem_mem hj2)) hab) ?_
      decreasing_tactic
      refine pu_to (j := j) push_get0 (by rw [cl, ixD_nat (by omega) (by omega)]; congr 1; omega) rfl ?_
      decreasing_tactic
      refine ⟨_, rfl, ?_⟩
      rw [List.set_append_right _ _ (Nat.le_refl _), Nat.sub_self, List.set_cons_zero, show (D.int (acc[j] + x * r[j])) = D.int (acc[j] + x * r[j]) from rfl, ← List.map_set, turn_set (by rw [addL_get hj1 (by rw [sclL_len]; exact hj2)]; simp [sclL]) hj1]
    · rintro e M' ⟨x6, rfl, rfl⟩
      decreasing_tactic
      refine ⟨_, _, _, rfl, ?_⟩
      have ls : (addL acc (sclL x r)).length = m + 1 := by rw [addL_len (by rw [sclL_len]; omega)]; exact la
      rw [rng_len, show ((m : Int) + 1).toNat = m + 1 by omega, List.take_of_length_le (by omega), List.drop_eq_nil_of_le (by omega), List.append_nil]
      rfl
  · rintro e M' ⟨x4, x5, x6, rfl, rfl⟩
    decreasing_tactic
    rw [List.length_map, List.take_length]
    refine l_tupR push_get0 ?_
    decreasing_tactic
    exact tq_pure pure_int q
abbrev dP (ps : List Nat) : D := .tup (ps.map fun p => D.int (p : Nat))
theorem zip_places : ∀ (ns : List Int) (ps : List Nat), zipD (ns.map D.int) (ps.map fun p => D.int (p : Nat)) = (ns.zip ps).map fun p => D.tup [.int p.1, .int (p.2 : Nat)]
  | [], _ => rfl
  | n :: ns, [] => rfl
  | n :: ns, p :: ps => by
    show D.tup [.int n, .int p] :: zipD (ns.map D.int) (ps.map _) = _
    rw [zip_places ns ps]; rfl
theorem moved_to_run {f0 : Int} {ff : List Int} {ps : List Nat} {m : Nat} (hm : m ≤ 100) (hl : ff.length ≤ 100) (hp : ∀ p ∈ ps, p < m)
    (q : R (.d (dI (moveL f0 ff ps m))) M) : P sp (k+1) n_moved_to [dI (f0 :: ff), dP ps, .int (m : Nat)] M (fun r M' => TQ M r M' R) X := by
  refine ph_b (d := d_moved_to) (off (by decide)) rfl rfl ?_
  unfold d_moved_to
  array_get_dec
  decreasing_tactic
  refine l_idxI (by omega) (by simp) ?_
  decreasing_tactic
  refine l_mulL ⟨by omega, by omega, by simp; unfold line; omega⟩ ?_
  decreasing_tactic
  rw [flat_int, Int.toNat_natCast]
  refine l_addLL (by simp; unfold line; omega) ?_
  decreasing_tactic
  rw [List.map_cons, cut1, zip_places]
  have e0 : [D.int ((f0 :: ff).getD (0 : Int).toNat 0)] ++ (List.replicate m 0).map D.int = (f0 :: List.replicate m 0).map D.int := rfl
  rw [e0]
  refine for_st PHm (fun i e M' => ∃ x4 x5, e = [some (dI (f0 :: ff)), some (dP ps), some (.int (m : Nat)), some (.ref M.length), x4, x5] ∧ M' = M ++ [.lst ((((ff.zip ps).take i).foldl (fun acc p => acc.set (p.2 + 1) p.1) (f0 :: List.replicate m 0)).map D.int)]) (by simp; unfold line; omega) ⟨none, none, rfl, rfl⟩ ?_ ?_
  · rintro i d e M' hd ⟨x4, x5, rfl, rfl⟩
    rw [List.getElem?_map] at hd
    obtain ⟨⟨x, r⟩, hz, rfl⟩ := Option.map_eq_some_iff.mp hd
    have hz2 := List.of_mem_zip (List.mem_of_getElem? hz)
    have hi := (List.getElem?_eq_some_iff.mp hz).1
    have he := (List.getElem?_eq_some_iff.mp hz).2
    have hr := hp r hz2.2
    rw [List.take_succ_eq_append_getElem hi, he, List.foldl_append]
    have la := move_len (l := (ff.zip ps).take i) (acc := f0 :: List.replicate m 0)
    generalize ((ff.zip ps).take i).foldl (fun acc p => acc.set (p.2 + 1) p.1) (f0 :: List.replicate m 0) = acc at la ⊢
    show optP _ _
    decreasing_tactic
    refine pu_to (j := r + 1) push_get0 (by rw [List.length_map, ixD_nat (by omega) (by simp at la; omega)]; congr 1) rfl ?_
    decreasing_tactic
    refine ⟨_, _, rfl, ?_⟩
    rw [List.set_append_right _ _ (Nat.le_refl _), Nat.sub_self, List.set_cons_zero, ← List.map_set]
    rfl
  · rintro e M' ⟨x4, x5, rfl, rfl⟩
    decreasing_tactic
    rw [List.length_map, List.take_length]
    refine l_tupR push_get0 ?_
    decreasing_tactic
    exact tq_pure pure_int q
theorem is_vector_in_run {v0 m : Int} {v : List Int} (hl : v.length ≤ 100) (hm : (v.length : Int) = m) (h0 : 0 ≤ v0) (q : R (.d (.bl true)) M) : P sp (k+2) n_is_vector_in [.int m, dI (v0 :: v)] M R X := by
  refine ph_b (d := d_is_vector_in) (off (by decide)) rfl rfl ?_
  unfold d_is_vector_in
  array_get_dec
  decreasing_tactic
  refine y_tup pure_dI ?_
  decreasing_tactic
  rw [List.length_map]
  rw [decide_eq_true (by simp; omega)]
  decreasing_tactic
  refine comp_map PHm (fun d => .bl (intD d)) (by simp; unfold line; omega) (fun d hd R q => ?_) ?_
  · obtain ⟨y, hy, rfl⟩ := List.mem_map.mp hd
    decreasing_tactic
    refine is_integer_run rfl ?_
    decreasing_tactic
    exact q
  decreasing_tactic
  refine l_all ?_
  have e : ((v0 :: v).map D.int).all intD = true := by rw [List.all_eq_true]; intro d hd; obtain ⟨y, hy, rfl⟩ := List.mem_map.mp hd; rfl
  rw [e]
  decreasing_tactic
  refine l_idxI (by omega) (by simp) ?_
  decreasing_tactic
  rw [show (v0 :: v).getD (0 : Int).toNat 0 = v0 from rfl, decide_eq_true h0]
  exact q
theorem value_at_run {is v : List Int} {v0 : Int} {b : Nat} (h1 : 1 ≤ is.length) (h2 : is.length ≤ 15) (hl : is.length = v.length + 1) (h0 : 0 ≤ v0) (hb : ∀ x ∈ is, Bn 199 x) (hv : ∀ x ∈ v0 :: v, Bn b x) (hbb : b ≤ 800000) (q : R (.d (.int (dot is (v0 :: v)))) M) :
    P sp (k+6) n_value_at [dI is, dI (v0 :: v)] M R X := by
  refine ph_b (d := d_value_at) (off (by decide)) rfl rfl ?_
  unfold d_value_at
  array_get_dec
  decreasing_tactic
  refine require_any_form_run h1 h2 hb ?_
  decreasing_tactic
  rw [List.length_map]
  refine is_vector_in_run (by omega) (by omega) h0 ?_
  decreasing_tactic
  refine at_in_run (by omega) hb hv (by omega) ?_
  decreasing_tactic
  exact q
theorem plus_run {is js : List Int} (h1 : 1 ≤ is.length) (h2 : is.length ≤ 15) (hl : is.length = js.length) (hi : ∀ x ∈ is, Bn 199 x) (hj : ∀ x ∈ js, Bn 199 x) (q : R (.d (dI (addL is js))) M) : P sp (k+6) n_plus [dI is, dI js] M R X := by
  refine ph_b (d := d_plus) (off (by decide)) rfl rfl ?_
  unfold d_plus
  array_get_dec
  decreasing_tactic
  refine require_any_form_run h1 h2 hi ?_
  decreasing_tactic
  refine require_any_form_run (by omega) (by omega) hj ?_
  decreasing_tactic
  rw [List.length_map, List.length_map, hl, decide_eq_true rfl]
  decreasing_tactic
  refine plus_in_run (by omega) ?_
  decreasing_tactic
  exact q
theorem times_run {n : Int} {is : List Int} (h1 : 1 ≤ is.length) (h2 : is.length ≤ 15) (hn : Bn 199 n) (hi : ∀ x ∈ is, Bn 199 x) (q : R (.d (dI (sclL n is))) M) : P sp (k+6) n_times [.int n, dI is] M R X := by
  refine ph_b (d := d_times) (off (by decide)) rfl rfl ?_
  unfold d_times
  array_get_dec
  decreasing_tactic
  refine is_short_run rfl ?_
  rw [short_of hn]
  decreasing_tactic
  refine require_any_form_run h1 h2 hi ?_
  decreasing_tactic
  refine times_in_run (by omega) hn hi (by decide) ?_
  decreasing_tactic
  exact q
theorem put_in_run {f0 : Int} {ff : List Int} {fs : List (List Int)} {m : Nat} (hm : m ≤ 14) (h2 : ff.length ≤ 14) (hl : fs.length = ff.length) (hr : ∀ r ∈ fs, r.length = m + 1) (ba : ∀ x ∈ f0 :: ff, Bn 199 x) (bb : ∀ r ∈ fs, ∀ x ∈ r, Bn 199 x)
    (q : R (.d (dI (putL f0 ff fs m))) M) : P sp (k+6) n_put_in [dI (f0 :: ff), .tup (dR fs), .int (m : Nat)] M R X := by
  refine ph_b (d := d_put_in) (off (by decide)) rfl rfl ?_
  unfold d_put_in
  array_get_dec
  decreasing_tactic
  refine require_any_form_run (by simp) (by simp; omega) ba ?_
  decreasing_tactic
  refine require_many_run (by omega) (by omega) ?_
  decreasing_tactic
  refine y_tup pure_dR ?_
  decreasing_tactic
  rw [List.length_map, List.length_map, decide_eq_true (by simp; omega)]
  decreasing_tactic
  refine comp_map PHm (fun d => .bl (formD m d)) (by simp; unfold line; omega) (fun d hd R q => ?_) ?_
  · obtain ⟨r, hr', rfl⟩ := List.mem_map.mp hd
    have e : formD m (dI r) = true := formD_dI (by have := hr r hr'; omega) (bb r hr')
    rw [e] at q
    decreasing_tactic
    refine form_run (by have := hr r hr'; omega) (by have := hr r hr'; omega) (bb r hr') ?_
    decreasing_tactic
    exact q
  decreasing_tactic
  refine l_all ?_
  have e : (dR fs).all (formD m) = true := by
    rw [List.all_eq_true]; intro d hd; obtain ⟨r, hr', rfl⟩ := List.mem_map.mp hd
    exact formD_dI (by have := hr r hr'; omega) (bb r hr')
  rw [e]
  decreasing_tactic
  refine put_into_run (by omega) (by omega) hr (fun x hx => ba x (List.mem_cons_of_mem _ hx)) bb (by decide) ?_
  decreasing_tactic
  exact q
theorem inD_int : ∀ {l : List Nat} {x : Nat}, inD (l.map fun p => D.int (p : Nat)) (.int (x : Nat)) = decide (x ∈ l)
  | [], x => rfl
  | y :: l, x => by
    show (decide ((y : Int) = x) || inD (l.map _) _) = _
    rw [inD_int]
    by_cases h : y = x
    · subst h; simp
    · have : ¬ (y : Int) = x := by omega
      simp [this, List.mem_cons, Ne.symm h]
theorem met_go : ∀ {l acc : List Nat}, (acc ++ l).Nodup → (l.map fun p => D.int (p : Nat)).foldl (fun acc d => if inD acc d = true then acc else acc ++ [d]) (acc.map fun p => D.int (p : Nat)) = (acc ++ l).map fun p => D.int (p : Nat)
  | [], acc, _ => by simp
  | x :: l, acc, h => by
    have hx : x ∉ acc := fun z => by
      rw [List.nodup_append] at h
      exact h.2.2 x z x List.mem_cons_self rfl
    rw [List.map_cons, List.foldl_cons, inD_int, if_neg (by simp [hx])]
    have := met_go (l := l) (acc := acc ++ [x]) (by simpa using h)
    rw [List.map_append] at this
    simpa using this
theorem met_nodup {ps : List Nat} (h : ps.Nodup) : (metD (ps.map fun p => D.int (p : Nat))).length = ps.length := by
  unfold metD
  have := met_go (l := ps) (acc := []) (by simpa using h)
  rw [show ([] : List Nat).map (fun p => D.int (p : Nat)) = [] from rfl] at this
  rw [this]; simp
theorem pure_dP {ps : List Nat} : Pur (dP ps) := Purs.of fun d hd => by obtain ⟨p, _, rfl⟩ := List.mem_map.mp hd; rfl
theorem moved_run {f0 : Int} {ff : List Int} {ps : List Nat} {m : Nat} (hm : m ≤ 14) (h2 : ff.length ≤ 14) (hl : ps.length = ff.length) (ba : ∀ x ∈ f0 :: ff, Bn 199 x) (hp : ∀ p ∈ ps, p < m) (hn : ps.Nodup)
    (q : R (.d (dI (moveL f0 ff ps m))) M) : P sp (k+6) n_moved [dI (f0 :: ff), dP ps, .int (m : Nat)] M R X := by
  refine ph_b (d := d_moved) (off (by decide)) rfl rfl ?_
  unfold d_moved
  array_get_dec
  decreasing_tactic
  refine require_any_form_run (by simp) (by simp; omega) ba ?_
  decreasing_tactic
  refine require_many_run (by omega) (by omega) ?_
  decreasing_tactic
  refine y_tup pure_dP ?_
  decreasing_tactic
  rw [List.length_map, List.length_map, decide_eq_true (by simp; omega)]
  decreasing_tactic
  refine comp_map PHm (fun _ => .bl true) (by simp; unfold line; omega) (fun d hd R q => ?_) ?_
  · obtain ⟨r, hr', rfl⟩ := List.mem_map.mp hd
    have := hp r hr'
    decreasing_tactic
    refine is_integer_run rfl ?_
    decreasing_tactic
    rw [decide_eq_true (show ((r : Nat) : Int) < m by omega)]
    exact q
  decreasing_tactic
  refine l_all (f := fun _ => true) ?_
  rw [show (ps.map fun p => D.int (p : Nat)).all (fun _ => true) = true from by rw [List.all_eq_true]; exact fun _ _ => rfl]
  decreasing_tactic
  refine l_lenset rfl (by rw [List.all_eq_true]; intro d hd; obtain ⟨r, hr', rfl⟩ := List.mem_map.mp hd; rfl) (by simp; omega) ?_
  rw [met_nodup hn]
  decreasing_tactic
  rw [List.length_map, decide_eq_true rfl]
  decreasing_tactic
  refine moved_to_run (by omega) (by omega) hp ?_
  decreasing_tactic
  exact q
end
/-! what the laws draw -/
section
variable {p k : Nat} {M : Ar} {R : Rv → Ar → Prop} {X : Nat → D → Ar → Prop}
theorem plain_form_run {m t : Int} (hM : M[p]? = some .spn) (hm : 0 ≤ m) (hm2 : m ≤ 100) (ht : 0 ≤ t) (hb : t ≤ 1000000)
    (q : ∀ is : List Int, (is.length : Int) = m + 1 → (∀ i ∈ is, -t ≤ i ∧ i ≤ t) → R (.d (dI is)) M) : P (SP p) (k+4) n__law_plain_form [.ref p, .int m, .int t] M R X := by
  refine ph_b (d := d__law_plain_form) (off (by decide)) rfl rfl ?_
  unfold d__law_plain_form
  array_get_dec
  decreasing_tactic
  refine l_rng1 (small_of (by omega) (by omega)) ?_
  decreasing_tactic
  refine comp_all PHm (fun _ y => ∃ j : Int, y = .int j ∧ -t ≤ j ∧ j ≤ t) (by rw [rng_len]; unfold line; omega) (fun i d hd R q => ?_) fun ys hl hy => ?_
  · decreasing_tactic
    refine l_mul (mulOk_of (m := 30) (by unfold Bn; decide) (n := 30) (Bn.lt (b := 1000001) (by omega) (by omega) (by decide)) (by decide)) ?_
    decreasing_tactic
    refine spin hM (by omega) (by omega) fun r h0 h1 => ?_
    decreasing_tactic
    refine among hM (Nat.zero_lt_succ _) (Nat.le_of_ble_eq_true rfl) fun d hd => ?_
    decreasing_tactic
    refine q d ?_
    simp only [List.mem_cons, List.not_mem_nil, or_false] at hd
    rcases hd with rfl | rfl | rfl
    · exact ⟨0, rfl, by omega, by omega⟩
    · exact ⟨0, rfl, by omega, by omega⟩
    · exact ⟨_, rfl, by omega, by omega⟩
  · obtain ⟨is, rfl, hil, hb⟩ := ints_of hy
    decreasing_tactic
    rw [rng_len] at hl
    rw [List.length_map] at hl
    exact q is (by omega) hb
theorem l_pow6 {R : Rv → Prop} (q : R (.d (.int 1000000))) : optP (oBin .pow (.d (.int 10)) (.d (.int 6)) M) R := l_pow (by decide +kernel) q
theorem int_among {M : Ar} {items : List D} {lo hi : Int} (hM : M[p]? = some .spn) (h : items.all (fun d => match d with | .int t => decide (lo ≤ t ∧ t ≤ hi) | _ => false) = true) (hne : 0 < items.length) (hl : items.length ≤ line) (q : ∀ t : Int, lo ≤ t → t ≤ hi → R (.d (.int t)) M) : P (SP p) (k + 2) n__law_among [.ref p, .vl items] M R X :=
  among hM hne hl fun d hd => by
    have := mem_all h hd
    cases d <;> simp at this
    exact q _ this.1 this.2
theorem nat_among {M : Ar} {items : List D} {hi : Nat} (hM : M[p]? = some .spn) (h : items.all (fun d => match d with | .int t => decide (0 ≤ t ∧ t ≤ (hi : Int)) | _ => false) = true) (hne : 0 < items.length) (hl : items.length ≤ line) (q : ∀ t : Nat, t ≤ hi → R (.d (.int (t : Nat))) M) : P (SP p) (k + 2) n__law_among [.ref p, .vl items] M R X :=
  int_among hM h hne hl fun t h0 h1 => by
    have := q t.toNat (by omega)
    rwa [Int.toNat_of_nonneg h0] at this
theorem form_drawn_run {m : Nat} {t : Int} (hM : M[p]? = some .spn) (hm : m ≤ 100) (ht : 0 ≤ t) (hb : t ≤ 1000000)
    (q : ∀ (f0 : Int) (ff : List Int), ff.length = m → -t ≤ f0 → f0 ≤ t → (∀ x ∈ ff, -3 ≤ x ∧ x ≤ 3) → R (.d (dI (f0 :: ff))) M) : P (SP p) (k+4) n__law_form_drawn [.ref p, .int (m : Nat), .int t] M (fun r M' => TQ M r M' R) X := by
  refine ph_b (d := d__law_form_drawn) (off (by decide)) rfl rfl ?_
  unfold d__law_form_drawn
  array_get_dec
  decreasing_tactic
  refine l_mul (mulOk_of (m := 30) (by unfold Bn; decide) (n := 30) (Bn.lt (b := 1000001) (by omega) (by omega) (by decide)) (by decide)) ?_
  decreasing_tactic
  refine spin hM (by omega) (by omega) fun f0 h0 h1 => ?_
  decreasing_tactic
  refine l_mulL ⟨by omega, by omega, by simp; unfold line; omega⟩ ?_
  decreasing_tactic
  rw [flat_int, Int.toNat_natCast]
  refine l_addLL (by simp; unfold line; omega) ?_
  decreasing_tactic
  have e0 : [D.int (f0 - t)] ++ (List.replicate m 0).map D.int = ((f0 - t) :: List.replicate m 0).map D.int := rfl
  rw [e0]
  have fin : ∀ (ff : List Int), ff.length = m → (∀ x ∈ ff, -3 ≤ x ∧ x ≤ 3) → TQ M (.d (dI ((f0 - t) :: ff))) (M ++ [.lst (((f0 - t) :: ff).map D.int)]) R := fun ff h1 h2 => tq_pure pure_int (q _ ff h1 (by omega) (by omega) h2)
  refine if_d (fun c => ?_) (fun c => ?_)
  · decreasing_tactic
    refine nat_among (hi := 3) (push_old hM) rfl (Nat.zero_lt_succ _) (Nat.le_of_ble_eq_true rfl) fun n hn => ?_
    decreasing_tactic
    refine l_rng1 (small_of (by omega) (by omega)) ?_
    refine for_st PHm (fun i e M' => ∃ x4, e = [some (.ref p), some (.int (m : Nat)), some (.int t), some (.ref M.length), x4] ∧ ∃ ff : List Int, ff.length = m ∧ (∀ x ∈ ff, -3 ≤ x ∧ x ≤ 3) ∧ M' = M ++ [.lst (((f0 - t) :: ff).map D.int)]) (by rw [rng_len]; unfold line; omega) ⟨none, rfl, _, List.length_replicate, fun x hx => by rw [(List.mem_replicate.mp hx).2]; omega, rfl⟩ ?_ ?_
    · rintro i d e M' hd ⟨x4, rfl, ff, hl, hf, rfl⟩
      decreasing_tactic
      refine int_among (lo := -2) (hi := 3) (push_old hM) rfl (Nat.zero_lt_succ _) (Nat.le_of_ble_eq_true rfl) fun v v0 v1 => ?_
      decreasing_tactic
      refine spin (push_old hM) (by omega) (by omega) fun r r0 r1 => ?_
      decreasing_tactic
      refine pu_to (j := r.toNat + 1) push_get0 (by rw [ixD_nat (by omega) (by simp; omega)]; congr 1; omega) rfl ?_
      decreasing_tactic
      refine ⟨_, rfl, ff.set r.toNat v, by rw [List.length_set]; exact hl, fun x hx => ?_, ?_⟩
      · rcases List.mem_or_eq_of_mem_set hx with hx | rfl
        · exact hf x hx
        · omega
      · rw [List.set_append_right _ _ (Nat.le_refl _), Nat.sub_self, List.set_cons_zero, ← List.map_set, List.set_cons_succ]
    · rintro e M' ⟨x4, rfl, ff, hl, hf, rfl⟩
      decreasing_tactic
      refine l_tupR push_get0 ?_
      decreasing_tactic
      exact fin ff hl hf
  · decreasing_tactic
    refine l_rng1 rfl ?_
    refine for_st PHm (fun i e M' => ∃ x4, e = [some (.ref p), some (.int (m : Nat)), some (.int t), some (.ref M.length), x4] ∧ M' = M ++ [.lst (((f0 - t) :: List.replicate m 0).map D.int)]) (by rw [rng_len]; decide) ⟨none, rfl, rfl⟩ ?_ ?_
    · rintro i d e M' hd _
      obtain ⟨_, h⟩ := rng_get hd
      exact absurd h (Nat.not_lt_zero _)
    · rintro e M' ⟨x4, rfl, rfl⟩
      decreasing_tactic
      refine l_tupR push_get0 ?_
      decreasing_tactic
      exact fin _ List.length_replicate fun x hx => by rw [(List.mem_replicate.mp hx).2]; omega
end
section
variable {p k : Nat} {M : Ar} {R : Rv → Ar → Prop} {X : Nat → D → Ar → Prop}
theorem many_drawn_run (hM : M[p]? = some .spn) (q : ∀ m : Nat, m ≤ 7 → R (.d (.int (m : Nat))) M) : P (SP p) (k+3) n__law_many_drawn [.ref p] M R X := by
  refine ph_b (d := d__law_many_drawn) (off (by decide)) rfl rfl ?_
  unfold d__law_many_drawn
  array_get_dec
  decreasing_tactic
  refine nat_among (hi := 7) hM rfl (Nat.zero_lt_succ _) (Nat.le_of_ble_eq_true rfl) fun m hm => ?_
  decreasing_tactic
  exact q m hm
theorem l_pow9 {R : Rv → Prop} (q : R (.d (.int 1000000000))) : optP (oBin .pow (.d (.int 10)) (.d (.int 9)) M) R := l_pow (by decide +kernel) q
theorem l_pow29 {R : Rv → Prop} (q : R (.d (.int 100000000000000000000000000000))) : optP (oBin .pow (.d (.int 10)) (.d (.int 29)) M) R := l_pow (by decide +kernel) q
theorem vector_drawn_run {m : Nat} (hM : M[p]? = some .spn) (hm : m ≤ 100)
    (q : ∀ (v0 : Int) (v : List Int), v.length = m → 0 ≤ v0 → (∀ x ∈ v0 :: v, Bn 98 x) → R (.d (dI (v0 :: v))) M) : P (SP p) (k+3) n__law_vector_drawn [.ref p, .int (m : Nat)] M R X := by
  refine ph_b (d := d__law_vector_drawn) (off (by decide)) rfl rfl ?_
  unfold d__law_vector_drawn
  array_get_dec
  decreasing_tactic
  refine l_pow9 ?_
  decreasing_tactic
  refine l_pow29 ?_
  decreasing_tactic
  refine int_among (lo := 3) (hi := 100000000000000000000000000000) hM rfl (Nat.zero_lt_succ _) (Nat.le_of_ble_eq_true rfl) fun t t0 t1 => ?_
  decreasing_tactic
  refine spin hM (by decide) (by decide) fun v0 h0 h1 => ?_
  decreasing_tactic
  refine l_rng1 (small_of (by omega) (by omega)) ?_
  refine comp_all PHm (fun _ y => ∃ j : Int, y = .int j ∧ -t ≤ j ∧ j ≤ t) (by rw [rng_len]; unfold line; omega) (fun i d hd R q => ?_) fun ys hl hy => ?_
  · decreasing_tactic
    refine l_mul (mulOk_of (m := 30) (by unfold Bn; decide) (n := 100) (Bn.lt (b := 100000000000000000000000000001) (by omega) (by omega) (by decide)) (by decide)) ?_
    decreasing_tactic
    refine spin hM (by omega) (by omega) fun r h0 h1 => ?_
    decreasing_tactic
    exact q _ ⟨_, rfl, by omega, by omega⟩
  obtain ⟨is, rfl, hil, hb⟩ := ints_of hy
  rw [rng_len, List.length_map] at hl
  decreasing_tactic
  refine l_tadd (by simp; unfold line; omega) ?_
  decreasing_tactic
  refine q v0 is (by omega) h0 fun x hx => ?_
  rcases List.mem_cons.mp hx with rfl | hx
  · exact Bn.of (by omega) (by omega)
  · have := hb x hx
    exact Bn.of (by omega) (by omega)
end
section
variable {p k : Nat} {M : Ar} {R : Rv → Ar → Prop} {X : Nat → D → Ar → Prop}
theorem law_at_run {is js : List Int} {a b : Nat} (hl : is.length ≤ 1000) (hi : ∀ i ∈ is, Bn a i) (hj : ∀ j ∈ js, Bn b j) (hab : a + b < 899990) (q : R (.d (.int (dot is js))) M) : P (SP p) (k+1) n__law_at [dI is, dI js] M R X := by
  refine ph_b (d := d__law_at) (off (by decide)) rfl rfl ?_
  unfold d__law_at
  array_get_dec
  decreasing_tactic
  rw [zip_ints]
  refine comp_map PHm (fun d => match d with | .tup [.int x, .int y] => .int (x * y) | d => d) (by simp; unfold line; omega) (fun d hd R q => ?_) ?_
  · obtain ⟨⟨x, y⟩, hp, rfl⟩ := List.mem_map.mp hd
    decreasing_tactic
    refine l_mul (mulOk_of (hi x (List.of_mem_zip hp).1) (hj y (List.of_mem_zip hp).2) hab) ?_
    decreasing_tactic
    exact q
  · decreasing_tactic
    have e : ((is.zip js).map fun p => D.tup [.int p.1, .int p.2]).map (fun d => match d with | .tup [.int x, .int y] => .int (x * y) | d => d) = ((is.zip js).map fun p => p.1 * p.2).map D.int := by
      rw [List.map_map, List.map_map]; rfl
    rw [e]
    refine l_sum ?_
    decreasing_tactic
    exact q
theorem moved_right_run {f0 : Int} {ff : List Int} {m : Nat} (hM : M[p]? = some .spn) (hm : m ≤ 7) (hl : ff.length = m) (ba : ∀ x ∈ f0 :: ff, Bn 199 x) (q : R (.d (.bl true)) M) : P (SP p) (k+7) n__law_moved_right [.ref p, dI (f0 :: ff), .int (m : Nat)] M (fun r M' => TQ M r M' R) X := by
  refine ph_b (d := d__law_moved_right) (off (by decide)) rfl rfl ?_
  unfold d__law_moved_right
  array_get_dec
  decreasing_tactic
  refine spin hM (by omega) (by omega) fun z z0 z1 => ?_
  obtain ⟨w, rfl⟩ : ∃ w : Nat, z = w := ⟨z.toNat, by omega⟩
  decreasing_trivial
  rw [show ((m : Int) + (w : Int)) = ((m + w : Nat) : Int) from by omega]
  obtain ⟨n, hn⟩ : ∃ n : Nat, n = m + w := ⟨_, rfl⟩
  rw [← hn]
  decreasing_tactic
  refine l_lrg (small_of (by omega) (by omega)) (by unfold line; omega) ?_
  decreasing_tactic
  refine l_rng1 (small_of (by omega) (by omega)) ?_
  have dPl : ∀ ps : List Nat, (ps.map fun p : Nat => D.int (p : Nat)) = (zI ps).map D.int := fun ps => by rw [List.map_map]; rfl
  refine for_st PHm (fun i e M' => ∃ x3 x8, e = [some (.ref p), some (dI (f0 :: ff)), some (.int (m : Nat)), x3, none, some (.int (n : Nat)), some (.vl (rangeL 0 ((m : Int) + 4).toNat)), some (.ref M.length), x8, none, none] ∧
    ∃ ps : List Nat, ps.length = i ∧ ps.Nodup ∧ (∀ j ∈ ps, j < n) ∧ M' = M ++ [.lst (ps.map fun p : Nat => D.int (p : Nat))]) (by rw [rng_len]; unfold line; omega) ⟨none, none, rfl, ([] : List Nat), rfl, List.nodup_nil, (fun _ h => absurd h List.not_mem_nil), rfl⟩ ?_ ?_
  · rintro i d e M' hd ⟨x3, x8, rfl, ps, pl, pn, pb, rfl⟩
    obtain ⟨rfl, hi⟩ := rng_get hd
    decreasing_tactic
    refine comp_fm PHm (fun d => match d with | .int j => if j < (n : Int) ∧ ¬ j ∈ zI ps then some d else none | _ => none) (by rw [rng_len]; unfold line; omega) (fun d hd R q => ?_) ?_
    · obtain ⟨j, hj⟩ := List.mem_iff_getElem?.mp hd
      obtain ⟨rfl, hlt⟩ := rng_get hj
      decreasing_tactic
      refine if_d (fun c => ?_) (fun c => ?_)
      · decreasing_tactic
        refine l_ninI (is := zI ps) (by rw [← dPl]; exact asS_ref push_get0) ?_
        decreasing_tactic
        refine if_nd (fun c2 => ?_) (fun c2 => ?_)
        · simp only [c2, not_true_eq_false, and_false, if_false] at q
          exact q
        · decreasing_tactic
          simp only [c, c2, not_false_eq_true, and_self, if_true] at q
          exact q
      · simp only [c, false_and, if_false] at q
        decreasing_tactic
        exact q
    decreasing_tactic
    refine m_ref push_get0 ?_
    decreasing_tactic
    refine among (push_old hM) ?_ ?_ fun d hd => ?_
    · apply List.length_pos_iff.mpr
      intro z
      rw [List.filterMap_eq_nil_iff] at z
      have := few_of (n := n) (ps := ps) fun j hj => by
        have hm4 : (rangeL 0 ((m : Int) + 4).toNat)[j]? = some (.int j) := by
          rw [rng_map]
          have : j < ((m : Int) + 4).toNat := by omega
          simp [this]
        have := z _ (List.mem_of_getElem? hm4)
        by_cases c : (j : Int) ∈ zI ps
        · obtain ⟨x, hx, e⟩ := List.mem_map.mp c
          have : x = j := by omega
          subst this; exact hx
        · simp only [c, not_false_eq_true, and_true] at this
          rw [if_pos (by omega)] at this
          cases this
      omega
    · exact Nat.le_trans (List.length_filterMap_le _ _) (by rw [rng_len]; unfold line; omega)
    · obtain ⟨x, hx, e⟩ := List.mem_filterMap.mp hd
      obtain ⟨j, hj⟩ := List.mem_iff_getElem?.mp hx
      obtain ⟨rfl, hlt⟩ := rng_get hj
      simp only [Int.zero_add] at e
      split at e
      · rename_i c
        cases e
        decreasing_tactic
        refine m_app push_get0 (by rw [List.length_map]; unfold line; omega) ?_
        decreasing_tactic
        refine ⟨_, _, rfl, ps ++ [j], by simp [pl], ?_, fun x hx => ?_, ?_⟩
        · rw [List.nodup_append]
          refine ⟨pn, by simp, fun a ha b hb => ?_⟩
          rw [List.mem_singleton.mp hb]
          rintro rfl
          exact c.2 (List.mem_map.mpr ⟨a, ha, rfl⟩)
        · rcases List.mem_append.mp hx with hx | hx
          · exact pb x hx
          · rw [List.mem_singleton.mp hx]; omega
        · rw [List.set_append_right _ _ (Nat.le_refl _), Nat.sub_self, List.set_cons_zero, List.map_append]; rfl
      · cases e
  rintro e M' ⟨x3, x8, rfl, ps, pl, pn, pb, rfl⟩
  rw [rng_len] at pl
  have pl : ps.length = m := by omega
  decreasing_tactic
  refine l_idxI (by omega) (by simp) ?_
  decreasing_tactic
  refine l_mulL ⟨by omega, by omega, by simp; unfold line; omega⟩ ?_
  decreasing_tactic
  rw [flat_int, Int.toNat_natCast]
  refine l_addLL (by simp; unfold line; omega) ?_
  decreasing_tactic
  have e0 : [D.int ((f0 :: ff).getD (0 : Int).toNat 0)] ++ (List.replicate n 0).map D.int = (f0 :: List.replicate n 0).map D.int := rfl
  rw [e0, List.map_cons, cut1]
  refine l_zipTP (push_old push_get0) ?_
  have old : ∀ g : Ar, (M ++ [Ob.lst (ps.map fun p : Nat => D.int (p : Nat))] ++ g)[M.length]? = some (.lst (ps.map fun p : Nat => D.int (p : Nat))) := fun g => push_old push_get0
  generalize hA : M ++ [Ob.lst (ps.map fun p : Nat => D.int (p : Nat))] = A at old ⊢
  refine for_dy PHm (all := zipD (ff.map D.int) (ps.map fun p : Nat => D.int (p : Nat))) (fun i e M' => ∃ x3 x8 x9 x10, e = [some (.ref p), some (dI (f0 :: ff)), some (.int (m : Nat)), x3, some (.ref A.length), some (.int (n : Nat)), some (.vl (rangeL 0 ((m : Int) + 4).toNat)), some (.ref M.length), x8, x9, x10] ∧
    M' = A ++ [.lst ((((ff.zip ps).take i).foldl (fun acc p => acc.set (p.2 + 1) p.1) (f0 :: List.replicate n 0)).map D.int)]) rfl (by rw [zip_places]; simp; unfold line; omega) ?_ ⟨_, _, none, none, rfl, rfl⟩ ?_ ?_
  · rintro i e M' ⟨x3, x8, x9, x10, rfl, rfl⟩
    exact walks_zip rfl (src_rf (old _))
  · rintro i d e M' hd ⟨x3, x8, x9, x10, rfl, rfl⟩
    rw [zip_places, List.getElem?_map] at hd
    obtain ⟨⟨x, r⟩, hz, rfl⟩ := Option.map_eq_some_iff.mp hd
    have hz2 := List.of_mem_zip (List.mem_of_getElem? hz)
    have hi := (List.getElem?_eq_some_iff.mp hz).1
    have he := (List.getElem?_eq_some_iff.mp hz).2
    have hr := pb r hz2.2
    rw [List.take_succ_eq_append_getElem hi, he, List.foldl_append]
    have la := move_len (l := (ff.zip ps).take i) (acc := f0 :: List.replicate n 0)
    generalize ((ff.zip ps).take i).foldl (fun acc p => acc.set (p.2 + 1) p.1) (f0 :: List.replicate n 0) = acc at la ⊢
    show optP _ _
    decreasing_tactic
    refine pu_to (j := r + 1) push_get0 (by rw [List.length_map, ixD_nat (by omega) (by simp at la; omega)]; congr 1) rfl ?_
    decreasing_tactic
    refine ⟨_, _, _, _, rfl, ?_⟩
    rw [List.set_append_right _ _ (Nat.le_refl _), Nat.sub_self, List.set_cons_zero, ← List.map_set]
    rfl
  · rintro e M' ⟨x3, x8, x9, x10, rfl, rfl⟩
    decreasing_tactic
    rw [zip_places, List.length_map, List.take_length]
    refine l_tupR (old _) ?_
    decreasing_tactic
    refine moved_run (by omega) (by omega) (by omega) ba pb pn ?_
    decreasing_tactic
    refine l_tupR push_get0 ?_
    decreasing_tactic
    refine l_eqS dat_dI ?_
    decreasing_tactic
    rw [← hA, List.append_assoc]
    exact tq_pure rfl q
end
theorem cons_of {a : List Int} {n : Nat} (e : a.length = n + 1) : ∃ x y, a = x :: y ∧ y.length = n := by
  cases a with
  | nil => simp at e
  | cons x y => exact ⟨x, y, rfl, by simpa using e⟩
theorem sh {c : Nat} {l : List Int} (h : ∀ x ∈ l, x.natAbs ≤ c) (hc : c ≤ 2 ^ 199) : ∀ x ∈ l, Bn 199 x := fun x hx => Nat.le_trans (h x hx) hc
section
variable {p k : Nat} {M : Ar} {R : Rv → Ar → Prop} {X : Nat → D → Ar → Prop}
theorem law_right_run (hM : M[p]? = some .spn) (q : R (.d (.bl true)) M) : P (SP p) (k+8) n__law_right [.ref p] M R X := by
  refine ph_b (d := d__law_right) (off (by decide)) rfl rfl ?_
  unfold d__law_right
  array_get_dec
  decreasing_tactic
  refine many_drawn_run hM fun m hm => ?_
  decreasing_tactic
  refine many_drawn_run hM fun z hz => ?_
  decreasing_tactic
  refine nat_among (hi := 14) hM rfl (Nat.zero_lt_succ _) (Nat.le_of_ble_eq_true rfl) fun l hl => ?_
  decreasing_tactic
  refine l_pow6 ?_
  decreasing_tactic
  refine plain_form_run hM (by omega) (by omega) (by omega) (by omega) fun one h1 h2 => ?_
  obtain ⟨a0, aa, rfl, ha⟩ := cons_of (n := m) (a := one) (by omega)
  have hA : ∀ x ∈ a0 :: aa, x.natAbs ≤ 1000000 := fun x hx => by have := h2 x hx; omega
  clear h1 h2
  decreasing_tactic
  refine form_drawn_run hM (by omega) (by omega) (by omega) fun o0 oo ho h4 h5 h6 => ?_
  have hO : ∀ x ∈ o0 :: oo, x.natAbs ≤ 5 := fun x hx => by
    rcases List.mem_cons.mp hx with rfl | hx
    · omega
    · have := h6 x hx; omega
  clear h4 h5 h6
  decreasing_tactic
  refine l_rng1 (small_of (by omega) (by omega)) ?_
  refine comp_all PHm (fun _ y => ∃ is, y = dI is ∧ is.length = z + 1 ∧ ∀ x ∈ is, x.natAbs ≤ 3) (by rw [rng_len]; unfold line; omega) (fun i d hd R q => ?_) fun ys hy1 hy2 => ?_
  · decreasing_tactic
    refine form_drawn_run hM (by omega) (by omega) (by omega) fun f0 ff g1 g2 g3 g4 => ?_
    decreasing_tactic
    refine q _ ⟨_, rfl, by simp [g1], fun x hx => ?_⟩
    rcases List.mem_cons.mp hx with rfl | hx
    · omega
    · have := g4 x hx; omega
  obtain ⟨fs, rfl, fl, hf⟩ := rows_of hy2
  rw [rng_len, List.length_map] at hy1
  have hf1 : ∀ r ∈ fs, r.length = z + 1 := fun r hr => (hf r hr).1
  have hf2 : ∀ r ∈ fs, ∀ x ∈ r, x.natAbs ≤ 3 := fun r hr => (hf r hr).2
  have hfl : fs.length = aa.length := by omega
  clear hf fl hy2
  decreasing_tactic
  refine l_rng1 (small_of (by omega) (by omega)) ?_
  refine comp_all PHm (fun _ y => ∃ is, y = dI is ∧ is.length = l + 1 ∧ ∀ x ∈ is, x.natAbs ≤ 9) (by rw [rng_len]; unfold line; omega) (fun i d hd R q => ?_) fun ys hy1 hy2 => ?_
  · decreasing_tactic
    refine plain_form_run hM (by omega) (by omega) (by omega) (by omega) fun is g1 g2 => ?_
    decreasing_tactic
    exact q _ ⟨_, rfl, by omega, fun x hx => by have := g2 x hx; omega⟩
  obtain ⟨gs, rfl, gl, hg⟩ := rows_of hy2
  rw [rng_len, List.length_map] at hy1
  have hg1 : ∀ r ∈ gs, r.length = l + 1 := fun r hr => (hg r hr).1
  have hg2 : ∀ r ∈ gs, ∀ x ∈ r, x.natAbs ≤ 9 := fun r hr => (hg r hr).2
  have hgl : gs.length = z := by omega
  clear hg gl hy2
  decreasing_tactic
  refine put_in_run (by omega) (by omega) hfl hf1 (sh hA (by decide)) (fun r hr => sh (hf2 r hr) (by decide)) ?_
  decreasing_tactic
  refine law_put_run (a := 199) (b := 199) (by omega) (by omega) hf1 (fun x hx => sh hA (by decide) x (List.mem_cons_of_mem _ hx)) (fun r hr => sh (hf2 r hr) (by decide)) (by decide) ?_
  decreasing_tactic
  refine l_neS dat_dI ?_
  decreasing_tactic
  have bL := putL_len (f0 := a0) (ff := aa) hf1
  have bB : ∀ x ∈ putL a0 aa fs z, x.natAbs ≤ 22000000 := fun x hx => by
    have := putL_abs (c := 1000000) (d := 3) (hA a0 List.mem_cons_self) (fun x hx => hA x (List.mem_cons_of_mem _ hx)) hf2 x hx
    have : aa.length * (1000000 * 3) ≤ 7 * (1000000 * 3) := Nat.mul_le_mul_right _ (by omega)
    omega
  obtain ⟨b0, bb, hb, hbl⟩ := cons_of bL
  have twice := fun {h : List Int → List Int} (hh : ∀ f0 ff, h (f0 :: ff) = putL f0 ff gs l) => putL_twice (f0 := a0) (ff := aa) hh hf1 hg1
  have dots := fun (v0 : Int) (v : List Int) => dot_putL (f0 := a0) (v0 := v0) (ff := aa) (v := v) hf1
  rw [hb] at bB twice dots ⊢
  have cB : ∀ x ∈ putL b0 bb gs l, x.natAbs ≤ 2000000000 := fun x hx => by
    have := putL_abs (c := 22000000) (d := 9) (bB b0 List.mem_cons_self) (fun x hx => bB x (List.mem_cons_of_mem _ hx)) hg2 x hx
    have : bb.length * (22000000 * 9) ≤ 7 * (22000000 * 9) := Nat.mul_le_mul_right _ (by omega)
    omega
  refine put_in_run (by omega) (by omega) (by omega) hg1 (sh bB (by decide)) (fun r hr => sh (hg2 r hr) (by decide)) ?_
  decreasing_tactic
  refine law_put_run (a := 199) (b := 199) (by omega) (by omega) hg1 (fun x hx => sh bB (by decide) x (List.mem_cons_of_mem _ hx)) (fun r hr => sh (hg2 r hr) (by decide)) (by decide) ?_
  decreasing_tactic
  refine l_neS dat_dI ?_
  decreasing_tactic
  refine comp_map PHm (fun d => dI (match unI d with | f0 :: ff => putL f0 ff gs l | [] => [])) (by simp; unfold line; omega) (fun d hd R q => ?_) ?_
  · obtain ⟨r, hr, rfl⟩ := List.mem_map.mp hd
    obtain ⟨r0, rr, rfl, hrl⟩ := cons_of (hf1 r hr)
    rw [unI_dI] at q
    decreasing_tactic
    refine put_in_run (by omega) (by omega) (by omega) hg1 (sh (hf2 _ hr) (by decide)) (fun r hr => sh (hg2 r hr) (by decide)) ?_
    decreasing_tactic
    exact q
  have em : (dR fs).map (fun d => dI (match unI d with | f0 :: ff => putL f0 ff gs l | [] => [])) = dR (fs.map fun r => match r with | f0 :: ff => putL f0 ff gs l | [] => []) := by
    show (fs.map dI).map _ = (fs.map _).map dI
    rw [List.map_map, List.map_map]
    refine List.map_congr_left fun r _ => ?_
    show dI (match unI (dI r) with | f0 :: ff => putL f0 ff gs l | [] => []) = dI _
    rw [unI_dI]
  rw [em]
  decreasing_tactic
  have hh1 : ∀ r ∈ fs.map (fun r => match r with | f0 :: ff => putL f0 ff gs l | [] => []), r.length = l + 1 := fun r hr => by
    obtain ⟨x, hx, rfl⟩ := List.mem_map.mp hr
    obtain ⟨r0, rr, rfl, hrl⟩ := cons_of (hf1 x hx)
    exact putL_len hg1
  have hh2 : ∀ r ∈ fs.map (fun r => match r with | f0 :: ff => putL f0 ff gs l | [] => []), ∀ x ∈ r, x.natAbs ≤ 300 := fun r hr => by
    obtain ⟨x, hx, rfl⟩ := List.mem_map.mp hr
    obtain ⟨r0, rr, rfl, hrl⟩ := cons_of (hf1 x hx)
    intro y hy
    have := putL_abs (c := 3) (d := 9) (hf2 _ hx r0 List.mem_cons_self) (fun x hx' => hf2 _ hx x (List.mem_cons_of_mem _ hx')) hg2 y hy
    have : rr.length * (3 * 9) ≤ 7 * (3 * 9) := Nat.mul_le_mul_right _ (by omega)
    omega
  refine put_in_run (by omega) (by omega) (by rw [List.length_map]; exact hfl) hh1 (sh hA (by decide)) (fun r hr => sh (hh2 r hr) (by decide)) ?_
  rw [twice (h := fun r => match r with | f0 :: ff => putL f0 ff gs l | [] => []) fun _ _ => rfl]
  decreasing_tactic
  refine put_in_run (by omega) (by omega) (by omega) hg1 (sh bB (by decide)) (fun r hr => sh (hg2 r hr) (by decide)) ?_
  decreasing_tactic
  refine l_neS dat_dI ?_
  decreasing_tactic
  refine spin hM (by decide) (by decide) fun n n0 n1 => ?_
  generalize hn : n - 1000 = nn
  decreasing_tactic
  rw [hn]
  refine plus_run (by simp) (by simp; omega) (by simp; omega) (sh hA (by decide)) (sh hO (by decide)) ?_
  decreasing_tactic
  rw [zip_ints]
  refine comp_map PHm (fun d => match d with | .tup [.int x, .int y] => .int (x + y) | d => d) (by simp; unfold line; omega) (fun d hd R q => ?_) ?_
  · obtain ⟨⟨x, y⟩, hp, rfl⟩ := List.mem_map.mp hd
    decreasing_tactic
    exact q
  have es : (((a0 :: aa).zip (o0 :: oo)).map fun p => D.tup [.int p.1, .int p.2]).map (fun d => match d with | .tup [.int x, .int y] => .int (x + y) | d => d) = (addL (a0 :: aa) (o0 :: oo)).map D.int := by
    unfold addL; rw [List.map_map, List.map_map]; rfl
  rw [es]
  decreasing_tactic
  refine l_neS dat_dI ?_
  decreasing_tactic
  refine times_run (by simp) (by simp; omega) (Bn.of (by omega) (by omega)) (sh hA (by decide)) ?_
  decreasing_tactic
  refine comp_map PHm (fun d => match d with | .int y => .int (nn * y) | d => d) (by simp; unfold line; omega) (fun d hd R q => ?_) ?_
  · obtain ⟨y, hy, rfl⟩ := List.mem_map.mp hd
    decreasing_tactic
    refine l_mul (mulOk_of (m := 20) (n := 199) (Bn.of (by omega) (by omega)) (sh hA (by decide) y hy) (by decide)) ?_
    decreasing_tactic
    exact q
  have et : ((a0 :: aa).map D.int).map (fun d => match d with | .int y => D.int (nn * y) | d => d) = (sclL nn (a0 :: aa)).map D.int := by
    unfold sclL; rw [List.map_map, List.map_map]; rfl
  rw [et]
  decreasing_tactic
  refine l_neS dat_dI ?_
  decreasing_tactic
  refine l_rng1 rfl ?_
  refine for_st PHm (fun i e M' => ∃ x4 x12 x13, e = [some (.ref p), some (.tup (dR fs)), some (.tup (dR gs)), some (.int nn), x4, some (.int (m : Nat)), some (.int (z : Nat)), some (.int (l : Nat)), some (dI (a0 :: aa)), some (dI (o0 :: oo)), some (dI (b0 :: bb)), some (dI (b0 :: bb)), x12, x13, none, none, none, none, none] ∧ M' = M) (by rw [rng_len]; decide) ⟨none, none, none, rfl, rfl⟩ ?_ ?_
  · rintro i d e M' hd ⟨x4, x12, x13, rfl, rfl⟩
    decreasing_tactic
    refine vector_drawn_run hM (by omega) fun v0 v hv h0 hB => ?_
    decreasing_tactic
    refine l_idxI (by omega) (by simp) ?_
    decreasing_tactic
    refine comp_map PHm (fun d => .int (dot (unI d) (v0 :: v))) (by simp; unfold line; omega) (fun d hd R q => ?_) ?_
    · obtain ⟨r, hr, rfl⟩ := List.mem_map.mp hd
      rw [unI_dI] at q
      decreasing_tactic
      refine law_at_run (a := 2) (b := 98) (by have := hf1 r hr; omega) (fun x hx => Nat.le_trans (hf2 r hr x hx) (by decide)) hB (by decide) ?_
      decreasing_tactic
      exact q
    obtain ⟨ab, hab⟩ : ∃ ab : List Int, ab = fs.map fun r => dot r (v0 :: v) := ⟨_, rfl⟩
    have ea : (dR fs).map (fun d => D.int (dot (unI d) (v0 :: v))) = ab.map D.int := by
      show (fs.map dI).map _ = _
      rw [hab, List.map_map, List.map_map]
      refine List.map_congr_left fun r _ => ?_
      show D.int (dot (unI (dI r)) (v0 :: v)) = _
      rw [unI_dI]; rfl
    rw [ea]
    have hal : ab.length = fs.length := by rw [hab, List.length_map]
    have haB : ∀ x ∈ v0 :: ab, Bn 110 x := fun x hx => by
      rcases List.mem_cons.mp hx with rfl | hx
      · exact Bn.mono (hB _ List.mem_cons_self) (by decide)
      · rw [hab] at hx
        obtain ⟨r, hr, rfl⟩ := List.mem_map.mp hx
        exact Bn.mono (dot_Bn (a := 2) (b := 98) (n := 3) (fun x hx => Nat.le_trans (hf2 r hr x hx) (by decide)) hB (by have := hf1 r hr; omega)) (by decide)
    have dot0 := dots v0 v
    rw [← hab] at dot0
    decreasing_tactic
    refine l_tadd (by simp; unfold line; omega) ?_
    decreasing_tactic
    have e0 : [D.int ((v0 :: v).getD (0 : Int).toNat 0)] ++ ab.map D.int = (v0 :: ab).map D.int := rfl
    rw [e0]
    refine value_at_run (b := 98) (by simp) (by simp; omega) (by simp; omega) h0 (sh bB (by decide)) hB (by decide) ?_
    decreasing_tactic
    refine law_at_run (a := 199) (b := 110) (by simp; omega) (sh hA (by decide)) haB (by decide) ?_
    decreasing_tactic
    rw [dot0, decide_eq_true rfl]
    decreasing_tactic
    refine value_at_run (b := 98) (by simp) (by simp; omega) (by simp; omega) h0 (sh bB (by decide)) hB (by decide) ?_
    decreasing_tactic
    refine value_at_run (b := 110) (by simp) (by simp; omega) (by simp; omega) h0 (sh hA (by decide)) haB (by decide) ?_
    decreasing_tactic
    rw [dot0, decide_eq_true rfl]
    decreasing_tactic
    have sB : ∀ x ∈ sclL nn (o0 :: oo), x.natAbs ≤ 1001 * 5 := sclL_abs (by omega) hO
    have aB : ∀ x ∈ addL (a0 :: aa) (sclL nn (o0 :: oo)), x.natAbs ≤ 1000000 + 1001 * 5 := addL_abs hA sB
    have sl : (sclL nn (o0 :: oo)).length = m + 1 := by rw [sclL_len]; simp [ho]
    have al : (addL (a0 :: aa) (sclL nn (o0 :: oo))).length = m + 1 := by rw [addL_len (by rw [sl]; simp [ha])]; simp [ha]
    refine times_run (by simp) (by simp; omega) (Bn.of (by omega) (by omega)) (sh hO (by decide)) ?_
    decreasing_tactic
    refine plus_run (by simp) (by simp; omega) (by rw [sl]; simp [ha]) (sh hA (by decide)) (sh sB (by decide)) ?_
    decreasing_tactic
    refine value_at_run (b := 110) (by omega) (by omega) (by omega) h0 (sh aB (by decide)) haB (by decide) ?_
    decreasing_tactic
    refine value_at_run (b := 110) (by simp) (by simp; omega) (by simp; omega) h0 (sh hA (by decide)) haB (by decide) ?_
    decreasing_tactic
    refine value_at_run (b := 110) (by simp) (by simp; omega) (by simp; omega) h0 (sh hO (by decide)) haB (by decide) ?_
    decreasing_tactic
    refine l_mul (mulOk_of (m := 20) (n := 116) (Bn.of (by omega) (by omega)) (dot_Bn (a := 3) (b := 110) (n := 3) (fun x hx => Nat.le_trans (hO x hx) (by decide)) haB (by simp; omega)) (by decide)) ?_
    decreasing_tactic
    rw [dot_addL (by rw [sl]; simp [ha]), dot_sclL, decide_eq_true rfl]
    decreasing_tactic
    exact ⟨_, _, _, rfl, by first | rfl | trivial⟩
  · rintro e M' ⟨x4, x12, x13, rfl, rfl⟩
    decreasing_tactic
    refine moved_right_run hM hm ha (sh hA (by decide)) ?_
    decreasing_tactic
    exact q
end
theorem cost_ok : cPhi fuel dfs 8 + cPhi fuel dfs 8 ≤ BIG := Nat.le_trans (by decide +kernel : cPhi fuel dfs 8 + cPhi fuel dfs 8 ≤ 2 ^ 800000) BIG_ge
theorem tiny {l : List Int} {n : Nat} (h : l.all (fun x => decide (x.natAbs ≤ 2 ^ n)) = true) : ∀ x ∈ l, Bn n x := fun x hx => show x.natAbs ≤ 2 ^ n from of_decide_eq_true (List.all_eq_true.mp h x hx)
theorem law_ok (ns : List Int) (hl : ns.length ≤ 63) : ∃ M, Phi fuel T lev li [.rl (ns.map D.int)] [] = .ok (.d (.bl true)) M := by
  suffices h : PH spNone fuel T lev li [.rl (ns.map D.int)] [] (fun r _ => r = .d (.bl true)) fun _ _ _ => False by
    obtain ⟨r, M', e, rfl⟩ := ph_out (dfs := dfs) h
    exact ⟨M', e⟩
  refine ph_b (d := d_law) rfl rfl rfl ?_
  unfold d_law
  array_get_dec
  decreasing_tactic
  refine l_rng1 (small_of (by split <;> split <;> omega) (by rw [List.length_map]; split <;> split <;> omega)) ?_
  have fin : ∀ (p : Nat) (M : Ar), M[p]? = some .spn → P (SP p) 8 n__law_right [.ref p] M (fun r M' => r = .d (.bl true) ∧ M' = M) fun _ _ _ => False := fun p M hM => law_right_run hM ⟨rfl, rfl⟩
  refine for_st PHm (fun i e M' => ∃ x1 x3, e = [some (.rl (ns.map D.int)), x1, none, x3, none]) (by rw [rng_len]; split <;> split <;> (unfold line; omega)) ⟨_, _, rfl⟩ ?_ ?_
  · rintro i d e M' hd ⟨x1, x3, rfl⟩
    obtain ⟨rfl, hi⟩ := rng_get hd
    have hi : i < 100 := by revert hi; split <;> split <;> omega
    rw [Int.zero_add]
    decreasing_tactic
    refine spins_run rfl rfl hi fun s hs => ?_
    decreasing_tactic
    rw [spn_push]
    refine right_call fin get_end hs (Nat.le_trans (by omega) cost_ok) fun s1 h1 => ?_
    refine tq_len (by simp) ?_
    decreasing_tactic
    refine right_call fin get_end h1 (Nat.le_trans (by omega) cost_ok) fun s2 h2 => ?_
    refine tq_len (by simp) ?_
    decreasing_tactic
    exact ⟨_, _, rfl⟩
  · rintro e M' ⟨x1, x3, rfl⟩
    decreasing_tactic
    refine comp_map PHm (fun d => .int (dot [3, -1, 2] (unI d))) (by decide) (fun d hd R q => ?_) ?_
    · simp only [List.mem_cons, List.not_mem_nil, or_false] at hd
      rcases hd with rfl | rfl | rfl
      · decreasing_tactic
        refine value_at_run (is := [3, -1, 2]) (v0 := 1) (v := [4, 5]) (b := 10) (by decide) (by decide) (by decide) (by decide) (tiny (by decide)) (tiny (by decide)) (by decide) ?_
        decreasing_tactic
        exact q
      · decreasing_tactic
        refine value_at_run (is := [3, -1, 2]) (v0 := 2) (v := [4, 5]) (b := 10) (by decide) (by decide) (by decide) (by decide) (tiny (by decide)) (tiny (by decide)) (by decide) ?_
        decreasing_tactic
        exact q
      · decreasing_tactic
        refine value_at_run (is := [3, -1, 2]) (v0 := 0) (v := [1, 0]) (b := 10) (by decide) (by decide) (by decide) (by decide) (tiny (by decide)) (tiny (by decide)) (by decide) ?_
        decreasing_tactic
        exact q
    decreasing_tactic
    refine value_at_run (is := [7]) (v0 := 5) (v := []) (b := 10) (by decide) (by decide) (by decide) (by decide) (tiny (by decide)) (tiny (by decide)) (by decide) ?_
    decreasing_tactic
    refine l_cmp (b := false) rfl ?_
    decreasing_tactic
    refine put_in_run (f0 := 1) (ff := [2, -1]) (fs := [[0, 1], [5, -3]]) (m := 1) (by decide) (by decide) (by decide) (by decide) (tiny (by decide)) (fun r hr => tiny (by revert r; decide)) ?_
    decreasing_tactic
    refine l_cmp (b := false) rfl ?_
    decreasing_tactic
    refine put_in_run (f0 := 4) (ff := []) (fs := []) (m := 2) (by decide) (by decide) (by decide) (by decide) (tiny (by decide)) (fun r hr => absurd hr List.not_mem_nil) ?_
    decreasing_tactic
    refine l_cmp (b := false) rfl ?_
    decreasing_tactic
    refine moved_run (f0 := 7) (ff := [1, 2]) (ps := [2, 0]) (m := 3) (by decide) (by decide) (by decide) (tiny (by decide)) (by decide) (by decide) ?_
    decreasing_tactic
    refine l_cmp (b := true) rfl ?_
    decreasing_tactic
    refine plus_run (is := [1, 2]) (js := [3, -2]) (by decide) (by decide) (by decide) (tiny (by decide)) (tiny (by decide)) ?_
    decreasing_tactic
    refine l_cmp (b := true) rfl ?_
    decreasing_tactic

end L_k01
end

section
set_option Elab.async false
set_option linter.all false
set_option maxRecDepth 100000
set_option maxHeartbeats 0
namespace L_k01
open PySem PySem.Spec PyProof.Rows L2 Q
abbrev pg : Program := PySem.Challenge.pw_fallorflow_k01_whole_forms_put_into_form
def top (i : Nat) : Stmt := pg.main.body.getD i (.Pass ⟨0, 0, 0, 0⟩)
def nx : NX := ⟨[("MOST_UNKNOWNS", (.int 14)), ("SIXTY", (.int 1000000000000000000000000000000000000000000000000000000000000))], [("is_integer", 0, 1), ("is_short", 1, 1), ("is_within", 2, 3), ("require_within", 3, 3), ("is_form_in", 4, 2), ("is_any_form", 5, 1), ("is_vector_in", 6, 2), ("at_in", 7, 2), ("plus_in", 8, 2), ("times_in", 9, 2), ("constant_form", 10, 2), ("put_into", 11, 3), ("moved_to", 12, 3), ("require_many", 13, 1), ("require_any_form", 14, 1), ("value_at", 15, 2), ("plus", 16, 2), ("times", 17, 2), ("put_in", 18, 3), ("moved", 19, 3), ("_law_spins", 20, 2), ("_law_spin", 21, 2), ("_law_among", 22, 2), ("_law_at", 23, 2), ("_law_put", 24, 3), ("_law_form_drawn", 25, 3), ("_law_many_drawn", 26, 1), ("_law_plain_form", 27, 3), ("_law_vector_drawn", 28, 2), ("_law_right", 29, 1), ("_law_moved_right", 30, 3), ("law", 31, 1)], ["abs", "all", "bool", "int", "isinstance", "len", "list", "max", "min", "range", "set", "sum", "tuple", "zip"], []⟩
def t_is_integer : TD := ⟨"is_integer", top 7, ["value"], d_is_integer⟩
def t_is_short : TD := ⟨"is_short", top 8, ["value"], d_is_short⟩
def t_is_within : TD := ⟨"is_within", top 9, ["value", "least", "most"], d_is_within⟩
def t_require_within : TD := ⟨"require_within", top 10, ["value", "least", "most"], d_require_within⟩
def t_is_form_in : TD := ⟨"is_form_in", top 13, ["many", "value", "entry"], d_is_form_in⟩
def t_is_any_form : TD := ⟨"is_any_form", top 14, ["value"], d_is_any_form⟩
def t_is_vector_in : TD := ⟨"is_vector_in", top 15, ["many", "value", "entry"], d_is_vector_in⟩
def t_at_in : TD := ⟨"at_in", top 16, ["form", "vector", "one", "other"], d_at_in⟩
def t_plus_in : TD := ⟨"plus_in", top 17, ["one", "other", "first", "second"], d_plus_in⟩
def t_times_in : TD := ⟨"times_in", top 18, ["number", "form", "entry"], d_times_in⟩
def t_constant_form : TD := ⟨"constant_form", top 19, ["number", "many"], d_constant_form⟩
def t_put_into : TD := ⟨"put_into", top 20, ["form", "forms", "many", "found", "entry", "one"], d_put_into⟩
def t_moved_to : TD := ⟨"moved_to", top 21, ["form", "places", "many", "found", "entry", "place"], d_moved_to⟩
def t_require_many : TD := ⟨"require_many", top 22, ["many"], d_require_many⟩
def t_require_any_form : TD := ⟨"require_any_form", top 23, ["form"], d_require_any_form⟩
def t_value_at : TD := ⟨"value_at", top 24, ["form", "vector"], d_value_at⟩
def t_plus : TD := ⟨"plus", top 25, ["one", "other"], d_plus⟩
def t_times : TD := ⟨"times", top 26, ["number", "form"], d_times⟩
def t_put_in : TD := ⟨"put_in", top 27, ["form", "forms", "many", "one"], d_put_in⟩
def t_moved : TD := ⟨"moved", top 28, ["form", "places", "many", "place"], d_moved⟩
def t__law_spins : TD := ⟨"_law_spins", top 30, ["_law_script", "_law_spot", "_law_cell", "_law_great"], d__law_spins⟩
def t__law_spin : TD := ⟨"_law_spin", top 31, ["_law_spins_here", "_law_total", "_law_one", "_law_two", "_law_found"], d__law_spin⟩
def t__law_among : TD := ⟨"_law_among", top 32, ["_law_spins_here", "_law_items"], d__law_among⟩
def t__law_at : TD := ⟨"_law_at", top 33, ["_law_form", "_law_vector", "_law_one", "_law_other"], d__law_at⟩
def t__law_put : TD := ⟨"_law_put", top 34, ["_law_form", "_law_forms", "_law_many", "_law_found", "_law_number", "_law_told", "_law_place"], d__law_put⟩
def t__law_form_drawn : TD := ⟨"_law_form_drawn", top 35, ["_law_spins_here", "_law_many", "_law_most", "_law_found", "_law_turn"], d__law_form_drawn⟩
def t__law_many_drawn : TD := ⟨"_law_many_drawn", top 36, ["_law_spins_here"], d__law_many_drawn⟩
def t__law_plain_form : TD := ⟨"_law_plain_form", top 37, ["_law_spins_here", "_law_many", "_law_most", "_law_at_here"], d__law_plain_form⟩
def t__law_vector_drawn : TD := ⟨"_law_vector_drawn", top 38, ["_law_spins_here", "_law_many", "_law_size", "_law_at_here"], d__law_vector_drawn⟩
def t__law_right : TD := ⟨"_law_right", top 39, ["_law_spins_here", "_law_put_here", "_law_further", "_law_number", "_law_turn", "_law_many", "_law_into", "_law_last", "_law_one", "_law_other", "_law_made", "_law_due", "_law_vector", "_law_above", "_law_at_here", "_law_entry", "_law_form", "_law_first", "_law_second"], d__law_right⟩
def t__law_moved_right : TD := ⟨"_law_moved_right", top 40, ["_law_spins_here", "_law_form", "_law_many", "_law_turn", "_law_due", "_law_into", "_law_left", "_law_places", "_law_some", "_law_entry", "_law_place"], d__law_moved_right⟩
def t_law : TD := ⟨"law", top 41, ["_law_script", "_law_spot", "_law_told", "_law_spins_here", "_law_vector"], d_law⟩
def tds : List TD := [t_is_integer, t_is_short, t_is_within, t_require_within, t_is_form_in, t_is_any_form, t_is_vector_in, t_at_in, t_plus_in, t_times_in, t_constant_form, t_put_into, t_moved_to, t_require_many, t_require_any_form, t_value_at, t_plus, t_times, t_put_in, t_moved, t__law_spins, t__law_spin, t__law_among, t__law_at, t__law_put, t__law_form_drawn, t__law_many_drawn, t__law_plain_form, t__law_vector_drawn, t__law_right, t__law_moved_right, t_law]
theorem tab_eq : tabOf tds = T := funext fun i => by
  show (tds[i]?).map _ = dfs[i]?
  rw [← List.getElem?_map]; rfl
theorem bi_is_integer : BindT t_is_integer := fun _ _ _ _ _ _ us hl => match us, hl with | [_], _ => rfl
theorem bi_is_short : BindT t_is_short := fun _ _ _ _ _ _ us hl => match us, hl with | [_], _ => rfl
theorem bi_is_within : BindT t_is_within := fun _ _ _ _ _ _ us hl => match us, hl with | [_, _, _], _ => rfl
theorem bi_require_within : BindT t_require_within := fun _ _ _ _ _ _ us hl => match us, hl with | [_, _, _], _ => rfl
theorem bi_is_form_in : BindT t_is_form_in := fun _ _ _ _ _ _ us hl => match us, hl with | [_, _], _ => rfl
theorem bi_is_any_form : BindT t_is_any_form := fun _ _ _ _ _ _ us hl => match us, hl with | [_], _ => rfl
theorem bi_is_vector_in : BindT t_is_vector_in := fun _ _ _ _ _ _ us hl => match us, hl with | [_, _], _ => rfl
theorem bi_at_in : BindT t_at_in := fun _ _ _ _ _ _ us hl => match us, hl with | [_, _], _ => rfl
theorem bi_plus_in : BindT t_plus_in := fun _ _ _ _ _ _ us hl => match us, hl with | [_, _], _ => rfl
theorem bi_times_in : BindT t_times_in := fun _ _ _ _ _ _ us hl => match us, hl with | [_, _], _ => rfl
theorem bi_constant_form : BindT t_constant_form := fun _ _ _ _ _ _ us hl => match us, hl with | [_, _], _ => rfl
theorem bi_put_into : BindT t_put_into := fun _ _ _ _ _ _ us hl => match us, hl with | [_, _, _], _ => rfl
theorem bi_moved_to : BindT t_moved_to := fun _ _ _ _ _ _ us hl => match us, hl with | [_, _, _], _ => rfl
theorem bi_require_many : BindT t_require_many := fun _ _ _ _ _ _ us hl => match us, hl with | [_], _ => rfl
theorem bi_require_any_form : BindT t_require_any_form := fun _ _ _ _ _ _ us hl => match us, hl with | [_], _ => rfl
theorem bi_value_at : BindT t_value_at := fun _ _ _ _ _ _ us hl => match us, hl with | [_, _], _ => rfl
theorem bi_plus : BindT t_plus := fun _ _ _ _ _ _ us hl => match us, hl with | [_, _], _ => rfl
theorem bi_times : BindT t_times := fun _ _ _ _ _ _ us hl => match us, hl with | [_, _], _ => rfl
theorem bi_put_in : BindT t_put_in := fun _ _ _ _ _ _ us hl => match us, hl with | [_, _, _], _ => rfl
theorem bi_moved : BindT t_moved := fun _ _ _ _ _ _ us hl => match us, hl with | [_, _, _], _ => rfl
theorem bi__law_spins : BindT t__law_spins := fun _ _ _ _ _ _ us hl => match us, hl with | [_, _], _ => rfl
theorem bi__law_spin : BindT t__law_spin := fun _ _ _ _ _ _ us hl => match us, hl with | [_, _], _ => rfl
theorem bi__law_among : BindT t__law_among := fun _ _ _ _ _ _ us hl => match us, hl with | [_, _], _ => rfl
theorem bi__law_at : BindT t__law_at := fun _ _ _ _ _ _ us hl => match us, hl with | [_, _], _ => rfl
theorem bi__law_put : BindT t__law_put := fun _ _ _ _ _ _ us hl => match us, hl with | [_, _, _], _ => rfl
theorem bi__law_form_drawn : BindT t__law_form_drawn := fun _ _ _ _ _ _ us hl => match us, hl with | [_, _, _], _ => rfl
theorem bi__law_many_drawn : BindT t__law_many_drawn := fun _ _ _ _ _ _ us hl => match us, hl with | [_], _ => rfl
theorem bi__law_plain_form : BindT t__law_plain_form := fun _ _ _ _ _ _ us hl => match us, hl with | [_, _, _], _ => rfl
theorem bi__law_vector_drawn : BindT t__law_vector_drawn := fun _ _ _ _ _ _ us hl => match us, hl with | [_, _], _ => rfl
theorem bi__law_right : BindT t__law_right := fun _ _ _ _ _ _ us hl => match us, hl with | [_], _ => rfl
theorem bi__law_moved_right : BindT t__law_moved_right := fun _ _ _ _ _ _ us hl => match us, hl with | [_, _, _], _ => rfl
theorem bi_law : BindT t_law := fun _ _ _ _ _ _ us hl => match us, hl with | [_], _ => rfl
theorem binds : BindTs tds := ⟨bi_is_integer, bi_is_short, bi_is_within, bi_require_within, bi_is_form_in, bi_is_any_form, bi_is_vector_in, bi_at_in, bi_plus_in, bi_times_in, bi_constant_form, bi_put_into, bi_moved_to, bi_require_many, bi_require_any_form, bi_value_at, bi_plus, bi_times, bi_put_in, bi_moved, bi__law_spins, bi__law_spin, bi__law_among, bi__law_at, bi__law_put, bi__law_form_drawn, bi__law_many_drawn, bi__law_plain_form, bi__law_vector_drawn, bi__law_right, bi__law_moved_right, bi_law, trivial⟩
theorem ok_is_integer : TD.okB nx t_is_integer = true := by kernel_rfl
theorem ok_is_short : TD.okB nx t_is_short = true := by kernel_rfl
theorem ok_is_within : TD.okB nx t_is_within = true := by kernel_rfl
theorem ok_require_within : TD.okB nx t_require_within = true := by kernel_rfl
theorem ok_is_form_in : TD.okB nx t_is_form_in = true := by kernel_rfl
theorem ok_is_any_form : TD.okB nx t_is_any_form = true := by kernel_rfl
theorem ok_is_vector_in : TD.okB nx t_is_vector_in = true := by kernel_rfl
theorem ok_at_in : TD.okB nx t_at_in = true := by kernel_rfl
theorem ok_plus_in : TD.okB nx t_plus_in = true := by kernel_rfl
theorem ok_times_in : TD.okB nx t_times_in = true := by kernel_rfl
theorem ok_constant_form : TD.okB nx t_constant_form = true := by kernel_rfl
theorem ok_put_into : TD.okB nx t_put_into = true := by kernel_rfl
theorem ok_moved_to : TD.okB nx t_moved_to = true := by kernel_rfl
theorem ok_require_many : TD.okB nx t_require_many = true := by kernel_rfl
theorem ok_require_any_form : TD.okB nx t_require_any_form = true := by kernel_rfl
theorem ok_value_at : TD.okB nx t_value_at = true := by kernel_rfl
theorem ok_plus : TD.okB nx t_plus = true := by kernel_rfl
theorem ok_times : TD.okB nx t_times = true := by kernel_rfl
theorem ok_put_in : TD.okB nx t_put_in = true := by kernel_rfl
theorem ok_moved : TD.okB nx t_moved = true := by kernel_rfl
theorem ok__law_spins : TD.okB nx t__law_spins = true := by kernel_rfl
theorem ok__law_spin : TD.okB nx t__law_spin = true := by kernel_rfl
theorem ok__law_among : TD.okB nx t__law_among = true := by kernel_rfl
theorem ok__law_at : TD.okB nx t__law_at = true := by kernel_rfl
theorem ok__law_put : TD.okB nx t__law_put = true := by kernel_rfl
theorem ok__law_form_drawn : TD.okB nx t__law_form_drawn = true := by kernel_rfl
theorem ok__law_many_drawn : TD.okB nx t__law_many_drawn = true := by kernel_rfl
theorem ok__law_plain_form : TD.okB nx t__law_plain_form = true := by kernel_rfl
theorem ok__law_vector_drawn : TD.okB nx t__law_vector_drawn = true := by kernel_rfl
theorem ok__law_right : TD.okB nx t__law_right = true := by kernel_rfl
theorem ok__law_moved_right : TD.okB nx t__law_moved_right = true := by kernel_rfl
theorem ok_law : TD.okB nx t_law = true := by kernel_rfl
theorem oks : tds.all (TD.okB nx) = true := by
  show (TD.okB nx t_is_integer && (TD.okB nx t_is_short && (TD.okB nx t_is_within && (TD.okB nx t_require_within && (TD.okB nx t_is_form_in && (TD.okB nx t_is_any_form && (TD.okB nx t_is_vector_in && (TD.okB nx t_at_in && (TD.okB nx t_plus_in && (TD.okB nx t_times_in && (TD.okB nx t_constant_form && (TD.okB nx t_put_into && (TD.okB nx t_moved_to && (TD.okB nx t_require_many && (TD.okB nx t_require_any_form && (TD.okB nx t_value_at && (TD.okB nx t_plus && (TD.okB nx t_times && (TD.okB nx t_put_in && (TD.okB nx t_moved && (TD.okB nx t__law_spins && (TD.okB nx t__law_spin && (TD.okB nx t__law_among && (TD.okB nx t__law_at && (TD.okB nx t__law_put && (TD.okB nx t__law_form_drawn && (TD.okB nx t__law_many_drawn && (TD.okB nx t__law_plain_form && (TD.okB nx t__law_vector_drawn && (TD.okB nx t__law_right && (TD.okB nx t__law_moved_right && (TD.okB nx t_law && true)))))))))))))))))))))))))))))))) = true
  rw [ok_is_integer, ok_is_short, ok_is_within, ok_require_within, ok_is_form_in, ok_is_any_form, ok_is_vector_in, ok_at_in, ok_plus_in, ok_times_in, ok_constant_form, ok_put_into, ok_moved_to, ok_require_many, ok_require_any_form, ok_value_at, ok_plus, ok_times, ok_put_in, ok_moved, ok__law_spins, ok__law_spin, ok__law_among, ok__law_at, ok__law_put, ok__law_form_drawn, ok__law_many_drawn, ok__law_plain_form, ok__law_vector_drawn, ok__law_right, ok__law_moved_right, ok_law]; rfl
theorem fns_ok : fnsB nx tds = true := by kernel_rfl
abbrev R : PySem.W.OpenRow := PySem.W.OpenLaw.row PySem.Challenge.rw_fallorflow_k01_whole_forms_put_into_form
def ls0 : List Str := ["__name__", "FlowError", "InvalidForm", "InvalidOperation", "InvalidNumber", "SIXTY", "is_integer", "is_short", "is_within", "require_within", "MOST_UNKNOWNS", "is_form_in", "is_any_form", "is_vector_in", "at_in", "plus_in", "times_in", "constant_form", "put_into", "moved_to", "require_many", "require_any_form", "value_at", "plus", "times", "put_in", "moved", "_law_spins", "_law_spin", "_law_among"]
def ls1 : List Str := ["_law_at", "_law_put", "_law_form_drawn", "_law_many_drawn", "_law_plain_form", "_law_vector_drawn", "_law_right", "_law_moved_right"]
abbrev loose : List Str := ls0 ++ ls1
theorem run (w : World) : HandSHeadRun.RunEq R (PySem.W.view R.prog [41]) (hookQ 4 (gsQ nx) (faQ nx tds) (tds.map TD.dd)) (obQ 4 (gsQ nx) (faQ nx tds) (tds.map TD.dd)) 1880 loose w := by
  intro os
  kernel_rfl
end L_k01
open PySem PySem.W PySem.Calls PyProof.Rows
theorem PySem.Challenge.cw_fallorflow_k01_whole_forms_put_into_form_holds : PySem.Challenge.rw_fallorflow_k01_whole_forms_put_into_form.Holds := by
  w_on; o_law
  refine HandSHeadRun.head_any (r := OpenLaw.row PySem.Challenge.rw_fallorflow_k01_whole_forms_put_into_form) (q := view (OpenLaw.row PySem.Challenge.rw_fallorflow_k01_whole_forms_put_into_form).prog [41]) (H := Q.hookQ 4 (Q.gsQ L_k01.nx) (Q.faQ L_k01.nx L_k01.tds) (L_k01.tds.map Q.TD.dd)) (ob := Q.obQ 4 (Q.gsQ L_k01.nx) (Q.faQ L_k01.nx L_k01.tds) (L_k01.tds.map Q.TD.dd)) (M := 1880) (loose := L_k01.loose) (d := HandSHeadRun.topDef (OpenLaw.row PySem.Challenge.rw_fallorflow_k01_whole_forms_put_into_form).prog 41) (kwd := []) Q.obQ_eq (by kernel_rfl) (fun s => by kernel_rfl) L_k01.run (by kernel_rfl) (by kernel_rfl) (by kernel_rfl) (by rfl) (by first | assumption | decide +kernel) (by decide +kernel) ⟨rfl, rfl, rfl, rfl, rfl, by decide +kernel⟩ ?hw ?hc
  case hw => w_witness2
  case hc =>
    exact Q.walk_q (lw := PySem.Challenge.rw_fallorflow_k01_whole_forms_put_into_form) (n := 63) (k := 9) (li := 31) (fuel := L_k01.fuel) (t := L_k01.t_law) (x := "_law_script") (G := L_k01.nx) (l := L_k01.tds) rfl (by decide) (by kernel_rfl) ⟨rfl, by decide, by decide⟩ L_k01.binds L_k01.oks L_k01.fns_ok rfl rfl (by kernel_rfl) rfl rfl (by rw [L_k01.tab_eq]; exact L_k01.law_ok)
end
