import PyProof.Rows.All
import PySem.Challenge.RW_viewsback_k81_closures_and_two_rows
import HandS.ForMost
import HandS.Style
import HandS.TupAny
import HandS.DictComp
import HandS.IsInst
import HandS.SetKeys
import HandS.Exc
import HandS.WordsDict
import HandS.ExcOwn
import PyProof.DictMoreH
import KE.GoesEnum
import HandS.Rev
import HandS.WordsExc
import KE.KExcSuper
import HandS.FStr
import HandS.ExcInit
import HandS.ExcIs
import KE.RegKSuper
section
set_option Elab.async false
set_option linter.all false
set_option maxRecDepth 100000
namespace Mi
open PySem L2
/-! ### values -/
inductive D where
  | non | bl (b : Bool) | int (i : Int) | str (x : Str)
  | tup (ds : List D) | lst (ds : List D)
  | dk (ks : List Key) (ds : List D) | dt (ks : List (List Key)) (ds : List D)
  deriving Inhabited
mutual
def D.beq : D → D → Bool
  | .non, .non => true
  | .bl a, .bl b => a == b
  | .int a, .int b => a == b
  | .str a, .str b => a == b
  | .tup a, .tup b => beqs a b
  | .lst a, .lst b => beqs a b
  | .dk k a, .dk l b => decide (k = l) && beqs a b
  | .dt k a, .dt l b => decide (k = l) && beqs a b
  | _, _ => false
def beqs : List D → List D → Bool
  | [], [] => true
  | x :: xs, y :: ys => x.beq y && beqs xs ys
  | _, _ => false
end
mutual
theorem D.beq_eq : ∀ a b : D, a.beq b = true ↔ a = b
  | .non, b => by cases b <;> simp [D.beq]
  | .bl _, b => by cases b <;> simp [D.beq]
  | .int _, b => by cases b <;> simp [D.beq]
  | .str _, b => by cases b <;> simp [D.beq]
  | .tup xs, b => by
    cases b <;> simp [D.beq]
    exact beqs_eq xs _
  | .lst xs, b => by
    cases b <;> simp [D.beq]
    exact beqs_eq xs _
  | .dk k xs, b => by
    cases b <;> simp [D.beq]
    intro _; exact beqs_eq xs _
  | .dt k xs, b => by
    cases b <;> simp [D.beq]
    intro _; exact beqs_eq xs _
theorem beqs_eq : ∀ a b : List D, beqs a b = true ↔ a = b
  | [], b => by cases b <;> simp [beqs]
  | x :: xs, b => by
    cases b with
    | nil => simp [beqs]
    | cons y ys => simp [beqs, D.beq_eq x y, beqs_eq xs ys]
end
instance : DecidableEq D := fun a b => if h : a.beq b = true then isTrue ((D.beq_eq a b).1 h) else isFalse fun e => h ((D.beq_eq a b).2 e)
/-- what a slot holds: nothing, frozen data, an object of the frame's own (n levels deep), an object lent to the frame -/
inductive SV where
  | un | fz (d : D) | ow (n : Nat) (d : D) | pn (n : Nat) (d : D)
  deriving DecidableEq, Inhabited
abbrev Env := List SV
/-- what an expression gives: frozen data, a new object, a view of a slot's object -/
inductive RV where
  | fz (d : D) | ow (n : Nat) (d : D) | vw (i : Nat)
  deriving DecidableEq, Inhabited
/-- an exception: the place of its class in the table, what it was made of -/
structure Exn where
  cls : Nat
  arg : D
  deriving DecidableEq, Inhabited
inductive Rs (α : Type) where
  | no | ex (x : Exn) | ok (a : α) (e : Env)
  deriving Inhabited
def Rs.bind {α β : Type} : Rs α → (α → Env → Rs β) → Rs β
  | .no, _ => .no
  | .ex x, _ => .ex x
  | .ok a e, k => k a e
@[simp] theorem Rs.bind_ok {α β : Type} (a : α) (e : Env) (k : α → Env → Rs β) : (Rs.ok a e).bind k = k a e := rfl
@[simp] theorem Rs.bind_ex {α β : Type} (x : Exn) (k : α → Env → Rs β) : (Rs.ex x : Rs α).bind k = .ex x := rfl
@[simp] theorem Rs.bind_no {α β : Type} (k : α → Env → Rs β) : (Rs.no : Rs α).bind k = .no := rfl
/-- a raise within is not followed -/
def Rs.noex {α : Type} : Rs α → Rs α
  | .ok a e => .ok a e
  | _ => .no
@[simp] theorem Rs.noex_ok {α : Type} (a : α) (e : Env) : (Rs.ok a e).noex = .ok a e := rfl
def ofO {α : Type} (o : Option α) (e : Env) : Rs α := match o with
  | some a => .ok a e
  | none => .no
@[simp] theorem ofO_some {α : Type} (a : α) (e : Env) : ofO (some a) e = .ok a e := rfl
@[simp] theorem ofO_none {α : Type} (e : Env) : ofO (none : Option α) e = .no := rfl

inductive Bop where | add | sub | mul | fdv | mod | pow | band | bor | shl | shr
  deriving DecidableEq
inductive Cop where | eq | ne | lt | le | gt | ge | isin | notin | is | isnot
  deriving DecidableEq
inductive Blt where | len | int | abs | all | any | sum | tuple | list | listrev | max2 | min2
  deriving DecidableEq
inductive Met where | index
  deriving DecidableEq
inductive Mut where | app | pop | setd
  deriving DecidableEq
inductive Tg where | nm (i : Nat) | tp (ts : List Tg)
  deriving Inhabited
inductive Ex where
  | var (i : Nat) | frz (i : Nat) | mv (i : Nat)
  | cst (d : D) | glb (x : Str) (d : D)
  | tup (n : Nat) (es : List Ex) | lst (n : Nat) (es : List Ex) | dk0 | dt0
  | bin (o : Bop) (a b : Ex) | neg (a : Ex)
  | cmp (o : Cop) (a b : Ex) | chn (o p : Cop) (a b c : Ex)
  | and (a b : Ex) | or (a b : Ex) | not (a : Ex) | ifx (c a b : Ex)
  | call (f : Nat) (es : List Ex) | blt (f : Blt) (es : List Ex) | isi (ts : List String) (a : Ex)
  | met (m : Met) (a : Ex) (es : List Ex) | mut (m : Mut) (i : Nat) (es : List Ex)
  | idx (a b : Ex) | slc (a : Ex) (lo hi : Option Ex)
  | lcp (own : List (Str × Nat)) (tg : Tg) (src : Ex) (c : Option Ex) (e : Ex)
  | dcp (own : List (Str × Nat)) (tg : Tg) (src : Ex) (c : Option Ex) (k e : Ex)
  | seq (a : Ex) | rng1 (a : Ex) | rng2 (a b : Ex) | enm (a : Ex)
  | one (a : Ex) | tst (a : Ex)
  deriving Inhabited
inductive Sm where
  | skip | seq (a b : Sm) | pass | brk | cnt
  | set (i : Nat) (e : Ex) | unp (t : Tg) (e : Ex) | aug (i : Nat) (o : Bop) (e : Ex)
  | par (is : List Nat) (es : List Ex)
  | sidx (i : Nat) (k e : Ex) | expr (e : Ex) | ret (e : Ex) | retn
  | ifs (c : Ex) (a b : Sm) | for_ (t : Tg) (src : Ex) (b : Sm) | whl (c : Ex) (b : Sm)
  | raise (c : Nat) (es : List Ex)
  deriving Inhabited

/-! ### pure operations -/
abbrev lim : Nat := sizeLine
mutual
def D.toP : D → PyData
  | .non => .none
  | .bl b => .bool b
  | .int i => .int i
  | .str x => .str x
  | .tup ds => .tuple (toPs ds)
  | .lst ds => .list (toPs ds)
  | .dk _ _ => .dict []
  | .dt _ _ => .dict []
def toPs : List D → List PyData
  | [] => []
  | d :: r => d.toP :: toPs r
end
def D.flat : D → Bool
  | .non | .bl _ | .int _ | .str _ => true
  | _ => false
def D.toV : D → V
  | .non => .non
  | .bl b => .bl b
  | .int i => .int i
  | .str x => .str x
  | _ => .non
def D.key : D → Option Key
  | .int i => some (.inl i)
  | .str x => some (.inr x)
  | _ => none
def D.keys : D → Option (List Key)
  | .tup ds => ds.mapM D.key
  | _ => none
/-- a dict's value at a key -/
def look {κ : Type} [DecidableEq κ] (k : κ) : List κ → List D → Option D
  | a :: ks, d :: ds => if a = k then some d else look k ks ds
  | _, _ => none
def repl {κ : Type} [DecidableEq κ] (k : κ) (v : D) : List κ → List D → List D
  | a :: ks, d :: ds => (if a = k then v else d) :: repl k v ks ds
  | _, _ => []
def put {κ : Type} [DecidableEq κ] (k : κ) (v : D) (ks : List κ) (ds : List D) : List κ × List D :=
  if (ks.any fun a => decide (a = k)) = true then (ks, repl k v ks ds) else (ks ++ [k], ds ++ [v])
def dget (d k : D) : Option (Option D) := match d with
  | .dk ks ds => k.key.map fun k => look k ks ds
  | .dt ks ds => k.keys.map fun k => look k ks ds
  | _ => none
def dput (d k v : D) : Option D := match d with
  | .dk ks ds => if ks.length < lim then k.key.map fun k => .dk (put k v ks ds).1 (put k v ks ds).2 else none
  | .dt ks ds => if ks.length < lim then k.keys.map fun k => .dt (put k v ks ds).1 (put k v ks ds).2 else none
  | _ => none
def dsize : D → Nat
  | .dk ks _ => ks.length
  | .dt ks _ => ks.length
  | _ => 0
def strMul (x : Str) (n : Int) : Str := ⟨(List.replicate n.toNat x.cps.toList).flatten.toArray⟩
def bop : Bop → D → D → Option D
  | .add, .int i, .int j => some (.int (i + j))
  | .add, .str x, .str y => if x.length + y.length ≤ lim then some (.str (x ++ y)) else none
  | .add, .lst a, .lst b => if a.length + b.length ≤ lim then some (.lst (a ++ b)) else none
  | .add, .tup a, .tup b => if a.length + b.length ≤ lim then some (.tup (a ++ b)) else none
  | .sub, .int i, .int j => some (.int (i - j))
  | .mul, .int i, .int j => if (-(2 ^ 64) < i ∧ i < 2 ^ 64) ∨ (-(2 ^ 64) < j ∧ j < 2 ^ 64) then some (.int (i * j)) else none
  | .mul, .str x, .int j => if x.length * j.toNat ≤ 1000 ∧ j < 1000 ∧ -1000 < j then some (.str (strMul x j)) else none
  | .fdv, .int i, .int j => if 0 < j ∧ j < 1073741824 then some (.int (i / j)) else none
  | .mod, .int i, .int j => if 0 < j then some (.int (i % j)) else none
  | .pow, .int i, .int j => if 0 ≤ j ∧ j ≤ 1000000 ∧ i.natAbs < 2 ^ 64 then some (.int (i ^ j.toNat)) else none
  | .band, .int i, .int j => some (.int (Builtin.bitAnd i j))
  | .bor, .int i, .int j => some (.int (Builtin.bitOr i j))
  | .shl, .int i, .int j => if 0 ≤ j ∧ j ≤ 1000000 ∧ i.natAbs < 2 ^ 64 then some (.int (i * 2 ^ j.toNat)) else none
  | .shr, .int i, .int j => if 0 ≤ j then some (.int (i / 2 ^ j.toNat)) else none
  | _, _, _ => none
def inD (x : D) (xs : List D) : Bool := xs.any fun y => eqV y.toV x.toV
def deq (d e : D) : Option Bool :=
  if scal d.toV e.toV && d.flat && e.flat then some (decide (d.toV = e.toV))
  else if SeqAt.shaped d.toP && SeqAt.shaped e.toP then some (PyData.eqv d.toP e.toP) else none
def din (x d : D) : Option Bool := match d with
  | .lst ds => if x.flat && ds.all D.flat then some (inD x ds) else none
  | .tup ds => if x.flat && ds.all D.flat then some (inD x ds) else none
  | .dk ks ds => x.key.map fun k => (look k ks ds).isSome
  | .dt ks ds => x.keys.map fun k => (look k ks ds).isSome
  | .str z => match x with
    | .str y => some (!(Builtin.Str.occurrences z y 0 z.length 1).isEmpty)
    | _ => none
  | _ => none
def cop : Cop → D → D → Option Bool
  | .eq, d, e => deq d e
  | .ne, d, e => (deq d e).map (!·)
  | .lt, .int i, .int j => some (decide (i < j))
  | .le, .int i, .int j => some (decide (i ≤ j))
  | .gt, .int i, .int j => some (decide (j < i))
  | .ge, .int i, .int j => some (decide (j ≤ i))
  | .isin, x, d => din x d
  | .notin, x, d => (din x d).map (!·)
  | .is, d, .non => some (decide (d.toV = .non) && d.flat)
  | .isnot, d, .non => some (!(decide (d.toV = .non) && d.flat))
  | .is, .bl a, .bl b => some (decide (a = b))
  | .isnot, .bl a, .bl b => some (!decide (a = b))
  | _, _, _ => none
def D.tru : D → Option Bool
  | .non => some false
  | .bl b => some b
  | .int i => some (i != 0)
  | .str x => if x.length ≤ lim then some ((x.length : Int) != 0) else none
  | .lst ds => some (!ds.isEmpty)
  | .tup ds => some (!ds.isEmpty)
  | .dk ks _ => some (!ks.isEmpty)
  | _ => none
def D.ty : D → String
  | .non => "NoneType"
  | .bl _ => "bool"
  | .int _ => "int"
  | .str _ => "str"
  | .tup _ => "tuple"
  | .lst _ => "list"
  | .dk _ _ => "dict"
  | .dt _ _ => "dict"
def D.bls : List D → Option (List Bool)
  | [] => some []
  | .bl b :: r => (D.bls r).map (b :: ·)
  | _ => none
def D.ints : List D → Option (List Int)
  | [] => some []
  | .int b :: r => (D.ints r).map (b :: ·)
  | _ => none
def bltin : Blt → List D → Option D
  | .len, [.str x] => if x.length ≤ lim then some (.int x.length) else none
  | .len, [.lst ds] => some (.int ds.length)
  | .len, [.tup ds] => some (.int ds.length)
  | .len, [.dk ks _] => some (.int ks.length)
  | .int, [.int i] => some (.int i)
  | .int, [.bl b] => some (.int (if b then 1 else 0))
  | .abs, [.int i] => some (.int (if i < 0 then -i else i))
  | .all, [.lst ds] => (D.bls ds).map fun bs => .bl (bs.all id)
  | .any, [.lst ds] => (D.bls ds).map fun bs => .bl (bs.any id)
  | .sum, [.lst ds] => (D.ints ds).map fun ns => .int ns.sum
  | .tuple, [.lst ds] => some (.tup ds)
  | .tuple, [.tup ds] => some (.tup ds)
  | .list, [.lst ds] => some (.lst ds)
  | .list, [.tup ds] => some (.lst ds)
  | .listrev, [.lst ds] => some (.lst ds.reverse)
  | .max2, [.int i, .int j] => some (.int (if j > i then j else i))
  | .min2, [.int i, .int j] => some (.int (if j < i then j else i))
  | _, _ => none
def findD (y : D) : List D → Option Nat
  | [] => none
  | d :: r => if eqV d.toV y.toV then some 0 else (findD y r).map (· + 1)
def metd : Met → D → List D → Option D
  | .index, .lst ds, [y] => if y.flat && ds.all D.flat then (findD y ds).map fun j => .int (j : Int) else none
  | _, _, _ => none
def didx (d k : D) : Option D := match d, k with
  | .lst ds, .int i => atI ds i
  | .tup ds, .int i => atI ds i
  | .str x, .int i => if x.length ≤ lim then (atI x.cps.toList i).map fun c => .str ⟨#[c]⟩ else none
  | .dk ks ds, k => k.key.bind fun k => look k ks ds
  | .dt ks ds, k => k.keys.bind fun k => look k ks ds
  | _, _ => none
def sidxD (d k x : D) : Option D := match d, k with
  | .lst ds, .int i => (ixN ds.length i).map fun j => .lst (ds.set j x)
  | .dk _ _, k => dput d k x
  | .dt _ _, k => dput d k x
  | _, _ => none
def cutD {α : Type} (xs : List α) (lo hi : Option Int) : List α := (xs.drop (HT.sIx xs.length 0 lo)).take (HT.sIx xs.length xs.length hi - HT.sIx xs.length 0 lo)
def dslc (d : D) (lo hi : Option Int) : Option D := match d with
  | .lst ds => some (.lst (cutD ds lo hi))
  | .tup ds => some (.tup (cutD ds lo hi))
  | _ => none
/-- a new value -/
def D.rv : D → RV
  | .lst ds => .ow 1 (.lst ds)
  | .dk ks ds => .ow 1 (.dk ks ds)
  | .dt ks ds => .ow 1 (.dt ks ds)
  | d => .fz d

/-! ### slots -/
def rd (env : Env) (i : Nat) : Option RV := match env[i]? with
  | some (.fz d) => some (.fz d)
  | some (.ow _ _) => some (.vw i)
  | some (.pn _ _) => some (.vw i)
  | _ => none
def obj (env : Env) (i : Nat) : Option (Nat × D) := match env[i]? with
  | some (.ow n d) => some (n, d)
  | some (.pn n d) => some (n, d)
  | _ => none
/-- its data: of a new object, or a view's, one level deep at most -/
def flatter : Nat → D → Option D
  | 1, .lst ds => some (.lst ds)
  | 1, .dk ks ds => some (.dk ks ds)
  | 1, .dt ks ds => some (.dt ks ds)
  | _, _ => none
def see (env : Env) : RV → Option D
  | .fz d => some d
  | .ow n d => flatter n d
  | .vw i => (obj env i).bind fun p => flatter p.1 p.2
/-- frozen: what it is, and the slots behind -/
def keep (env : Env) : RV → Option (D × Env)
  | .fz d => some (d, env)
  | .ow _ d => some (d, env)
  | .vw i => match env[i]? with
    | some (.ow _ d) => some (d, env.set i (.fz d))
    | _ => none
def keeps : List RV → Env → Option (List D × Env)
  | [], env => some ([], env)
  | r :: rs, env => (keep env r).bind fun p => (keeps rs p.2).map fun q => (p.1 :: q.1, q.2)
/-- seen without freezing, deeper new ones frozen -/
def look1 (env : Env) : RV → Option D
  | .ow _ d => some d
  | r => see env r
def looks (env : Env) : List RV → Option (List D)
  | [] => some []
  | r :: rs => (look1 env r).bind fun d => (looks env rs).map (d :: ·)
/-- a slot that may be stored to -/
def free (env : Env) (i : Nat) : Bool := match env[i]? with
  | some (.pn _ _) => false
  | some _ => true
  | none => false
def store (env : Env) (i : Nat) (r : RV) : Option Env :=
  if free env i then match r with
    | .fz d => some (env.set i (.fz d))
    | .ow n d => some (env.set i (.ow n d))
    | .vw j => match env[j]? with
      | some (.ow _ d) => some ((env.set j (.fz d)).set i (.fz d))
      | _ => none
  else none
mutual
def tgt : Tg → D → Env → Option Env
  | .nm i, d, env => store env i (.fz d)
  | .tp ts, .tup ds, env => tgts ts ds env
  | .tp _, _, _ => none
def tgts : List Tg → List D → Env → Option Env
  | [], [], env => some env
  | t :: ts, d :: ds, env => (tgt t d env).bind fun e => tgts ts ds e
  | _, _, _ => none
end
/-- names bound to the parts of a new tuple, one level less deep -/
def tgtO (n : Nat) : List Tg → List D → Env → Option Env
  | [], [], env => some env
  | .nm i :: ts, d :: ds, env => (store env i (if n = 0 then .fz d else .ow n d)).bind fun e => tgtO n ts ds e
  | _, _, _ => none
/-- arguments: frozen, or lent -/
def lend (env : Env) : RV → Option SV
  | .fz d => some (.fz d)
  | .ow n d => some (.pn n d)
  | .vw i => (obj env i).map fun p => .pn p.1 p.2
def lends (env : Env) : List RV → Option (List SV)
  | [] => some []
  | r :: rs => (lend env r).bind fun s => (lends env rs).map (s :: ·)
def apart : List RV → List Nat → Bool
  | [], _ => true
  | .vw i :: rs, us => !us.contains i && apart rs (i :: us)
  | _ :: rs, us => apart rs us
/-- what comes back of what was lent -/
def back : List RV → List SV → Env → Option Env
  | [], [], env => some env
  | .vw i :: rs, .pn n d :: ss, env => match env[i]? with
    | some (.ow _ _) => back rs ss (env.set i (.ow n d))
    | some (.pn _ _) => back rs ss (env.set i (.pn n d))
    | _ => none
  | .vw _ :: _, _, _ => none
  | _ :: rs, _ :: ss, env => back rs ss env
  | _, _, _ => none
/-- what is called: arguments in, what it gives and the arguments behind -/
inductive Ans where
  | no | ex (x : Exn) | ok (r : RV) (ss : List SV)
  deriving Inhabited
abbrev Calls := Nat → List SV → Ans
def wipes (env : Env) : List Nat → Env
  | [] => env
  | i :: is => (wipes env is).set i .un
/-- the slots of a block's own are empty or hold frozen data -/
def dull (env : Env) (is : List Nat) : Bool := is.all fun i => match env[i]? with
  | some .un => true
  | some (.fz _) => true
  | _ => false
/-- the slots of a block's own as they stood ahead of it -/
def undo (old env : Env) : List Nat → Env
  | [] => env
  | i :: is => (undo old env is).set i (old.getD i .un)
def pinS : SV → SV
  | .ow n d => .pn n d
  | s => s
/-- a slot's object is held still while it is walked -/
def lockE (lk : Option (Nat × SV)) (env : Env) : Env := match lk with
  | none => env
  | some (j, s) => env.set j (pinS s)
def unlockE (lk : Option (Nat × SV)) (env : Env) : Env := match lk with
  | none => env
  | some (j, s) => env.set j s
def held (lk : Option (Nat × SV)) (env : Env) : Bool := match lk with
  | none => true
  | some (j, s) => env[j]? == some (pinS s)
def lcLoop (lk : Option (Nat × SV)) (turn : D → Env → Rs (Option D)) : List D → List D → Env → Rs (List D)
  | [], acc, env => if held lk env then .ok acc env else .no
  | d :: ds, acc, env => if held lk env then (turn d env).bind fun r e => match r with
      | some x => if acc.length < lim then lcLoop lk turn ds (acc ++ [x]) e else .no
      | none => lcLoop lk turn ds acc e
    else .no
def dcLoop (lk : Option (Nat × SV)) (turn : D → Env → Rs (Option (Key × D))) : List D → List Key × List D → Env → Rs (List Key × List D)
  | [], acc, env => if held lk env then .ok acc env else .no
  | d :: ds, acc, env => if held lk env then (turn d env).bind fun r e => match r with
      | some p => if acc.1.length < lim then dcLoop lk turn ds (put p.1 p.2 acc.1 acc.2) e else .no
      | none => dcLoop lk turn ds acc e
    else .no
def asBl : D → Option Bool
  | .bl b => some b
  | _ => none
/-- a list's or tuple's items, and the slot that holds it -/
def source (env : Env) (r : RV) : Option (List D × Option (Nat × SV)) := match r with
  | .vw i => match obj env i, env[i]? with
    | some (1, .lst ds), some s => some (ds, some (i, s))
    | _, _ => none
  | .fz (.lst ds) => some (ds, none)
  | .fz (.tup ds) => some (ds, none)
  | .fz (.str x) => some (x.cps.toList.map fun c => .str ⟨#[c]⟩, none)
  | .ow _ (.lst ds) => some (ds, none)
  | _ => none
def isStr : RV → Bool
  | .fz (.str _) => true
  | _ => false
def enumD : Nat → List D → List D
  | _, [] => []
  | k, d :: r => .tup [.int (k : Int), d] :: enumD (k + 1) r
def rngD (lo hi : Int) : List D := (List.range (hi - lo).toNat).map fun (k : Nat) => .int (lo + k)
def small62 (i : Int) : Bool := decide (-(2 ^ 62) ≤ i) && decide (i < 2 ^ 62)
def mutate (m : Mut) (n : Nat) (d : D) (as : List D) : Option (RV × D) := match m, n, d, as with
  | .app, 1, .lst ds, [a] => if ds.length < lim then some (.fz .non, .lst (ds ++ [a])) else none
  | .pop, 1, .lst ds, [] => (ds[ds.length - 1]?).map fun x => (.fz x, .lst ds.dropLast)
  | .setd, 1, d, [k, v] => if dsize d < lim then (match dget d k with
    | some (some x) => some (.fz x, d)
    | some none => (dput d k v).map fun d' => (.fz v, d')
    | none => none) else none
  | _, _, _, _ => none

def mutFits (m : Mut) (o : Option (Nat × D)) : Bool := match m, o with
  | .app, some (_, .lst _) => true
  | .pop, some (_, .lst _) => true
  | .setd, some (_, .dk _ _) => true
  | .setd, some (_, .dt _ _) => true
  | _, _ => false
def metFits (m : Met) (o : Option D) : Bool := match m, o with
  | .index, some (.lst _) => true
  | _, _ => false
def owOf (n : Nat) : RV → Option D
  | .ow m d => if m = n then some d else none
  | _ => none
/-! ### what expressions give -/
mutual
def ev (Φ : Calls) : Ex → Env → Rs RV
  | .var i, env => ofO (rd env i) env
  | .frz i, env => match env[i]? with
    | some (.ow _ d) => .ok (.fz d) (env.set i (.fz d))
    | some (.fz d) => .ok (.fz d) env
    | _ => .no
  | .mv i, env => match env[i]? with
    | some (.ow n d) => .ok (.ow n d) (env.set i .un)
    | _ => .no
  | .cst d, env => .ok (.fz d) env
  | .glb _ d, env => .ok (.fz d) env
  | .tup n es, env => (evs Φ es env).bind fun rs e =>
    if n = 0 then (match keeps rs e with
      | some (ds, e') => if ds.length ≤ lim then .ok (.fz (.tup ds)) e' else .no
      | none => .no)
    else (match rs.mapM (owOf n) with
      | some ds => if ds.length ≤ lim then .ok (.ow (n + 1) (.tup ds)) e else .no
      | none => .no)
  | .lst _ es, env => (evs Φ es env).bind fun rs e => match keeps rs e with
    | some (ds, e') => if ds.length ≤ lim then .ok (.ow 1 (.lst ds)) e' else .no
    | none => .no
  | .dk0, env => .ok (.ow 1 (.dk [] [])) env
  | .dt0, env => .ok (.ow 1 (.dt [] [])) env
  | .bin o a b, env => (ev Φ a env).bind fun x e1 => (ev Φ b e1).bind fun y e2 => match see e2 x, see e2 y with
    | some d, some d' => ofO ((bop o d d').map D.rv) e2
    | _, _ => .no
  | .neg a, env => (ev Φ a env).bind fun x e1 => match see e1 x with
    | some (.int i) => .ok (.fz (.int (-i))) e1
    | _ => .no
  | .cmp o a b, env => (ev Φ a env).bind fun x e1 => (ev Φ b e1).bind fun y e2 => match see e2 x, see e2 y with
    | some d, some d' => ofO ((cop o d d').map fun c => .fz (.bl c)) e2
    | _, _ => .no
  | .chn o p a b c, env => (ev Φ a env).bind fun x e1 => (ev Φ b e1).bind fun y e2 => match see e2 x, see e2 y with
    | some d, some d' => match cop o d d' with
      | some true => (ev Φ c e2).bind fun z e3 => match see e3 y, see e3 z with
        | some d', some d'' => ofO ((cop p d' d'').map fun c => .fz (.bl c)) e3
        | _, _ => .no
      | some false => .ok (.fz (.bl false)) e2
      | none => .no
    | _, _ => .no
  | .and a b, env => (ev Φ a env).bind fun x e => match x with
    | .fz (.bl true) => ev Φ b e
    | .fz (.bl false) => .ok (.fz (.bl false)) e
    | _ => .no
  | .or a b, env => (ev Φ a env).bind fun x e => match x with
    | .fz (.bl true) => .ok (.fz (.bl true)) e
    | .fz (.bl false) => ev Φ b e
    | _ => .no
  | .not a, env => (ev Φ a env).bind fun x e => match x with
    | .fz (.bl c) => .ok (.fz (.bl (!c))) e
    | _ => .no
  | .ifx c a b, env => (evt Φ c env).bind fun c e => if c then ev Φ a e else ev Φ b e
  | .call f es, env => (evs Φ es env).bind fun rs e => if apart rs [] then match lends e rs with
      | some ss => match Φ f ss with
        | .ok r ss' => ofO ((back rs ss' e).map fun e' => (r, e')) e |>.bind fun p _ => .ok p.1 p.2
        | .ex x => .ex x
        | .no => .no
      | none => .no
    else .no
  | .blt f es, env => (evs Φ es env).bind fun rs e => match looks e rs with
    | some ds => ofO ((bltin f ds).map D.rv) e
    | none => .no
  | .isi ts a, env => (ev Φ a env).bind fun x e => match look1 e x with
    | some d => .ok (.fz (.bl (ts.any fun t => decide (t = d.ty) || (decide (t = "int") && decide (d.ty = "bool"))))) e
    | none => .no
  | .met m a es, env => (ev Φ a env).bind fun x e1 => if metFits m (see e1 x) then (evs Φ es e1).bind fun rs e2 => match see e2 x, looks e2 rs with
    | some d, some ds => ofO ((metd m d ds).map D.rv) e2
    | _, _ => .no
    else .no
  | .mut m i es, env => if mutFits m (obj env i) then (evs Φ es env).bind fun rs e => match keeps rs e with
    | some (as, e') => match e'[i]? with
      | some (.ow n d) => ofO (mutate m n d as) e' |>.bind fun p _ => .ok p.1 (e'.set i (.ow n p.2))
      | some (.pn n d) => ofO (mutate m n d as) e' |>.bind fun p _ => .ok p.1 (e'.set i (.pn n p.2))
      | _ => .no
    | none => .no else .no
  | .idx a b, env => (ev Φ a env).bind fun x e1 => (ev Φ b e1).bind fun y e2 => match look1 e2 x, look1 e2 y with
    | some d, some k => ofO ((didx d k).map RV.fz) e2
    | _, _ => .no
  | .slc a lo hi, env => (ev Φ a env).bind fun x e1 => (evo Φ lo e1).bind fun l e2 => (evo Φ hi e2).bind fun h e3 => match see e3 x with
    | some d => ofO ((dslc d l h).map D.rv) e3
    | none => .no
  | .lcp own tg src c e, env => (evi Φ src env).bind fun s e1 =>
    if dull e1 (own.map (·.2)) then
      (lcLoop s.2 (fun d en => match tgt tg d (wipes en (own.map (·.2))) with
        | some en2 => (evc Φ c en2).bind fun b en3 => if b then (ev Φ e en3).bind fun r en4 => (match keep en4 r with
            | some (x, en5) => .ok (some x) en5
            | none => .no) else .ok none en3
        | none => .no) s.1 [] (lockE s.2 e1)).noex.bind fun ds e2 => .ok (.ow 1 (.lst ds)) (unlockE s.2 (undo e1 e2 (own.map (·.2))))
    else .no
  | .dcp own tg src c k e, env => (evi Φ src env).bind fun s e1 =>
    if dull e1 (own.map (·.2)) then
      (dcLoop s.2 (fun d en => match tgt tg d (wipes en (own.map (·.2))) with
        | some en2 => (evc Φ c en2).bind fun b en3 => if b then (ev Φ k en3).bind fun rk en4 => (match rk with
            | .fz kd => (match kd.key with
              | some k => (ev Φ e en4).bind fun r en5 => (match keep en5 r with
                | some (x, en6) => .ok (some (k, x)) en6
                | none => .no)
              | none => .no)
            | _ => .no) else .ok none en3
        | none => .no) s.1 ([], []) (lockE s.2 e1)).noex.bind fun ds e2 => .ok (.ow 1 (.dk ds.1 ds.2)) (unlockE s.2 (undo e1 e2 (own.map (·.2))))
    else .no
  | .one a, env => ev Φ a env
  | .seq _, _ => .no
  | .rng1 _, _ => .no
  | .rng2 _ _, _ => .no
  | .enm _, _ => .no
  | .tst _, _ => .no
termination_by structural e => e
def evs (Φ : Calls) : List Ex → Env → Rs (List RV)
  | [], env => .ok [] env
  | e :: r, env => (ev Φ e env).bind fun x e1 => (evs Φ r e1).bind fun xs e2 => .ok (x :: xs) e2
termination_by structural e => e
def evo (Φ : Calls) : Option Ex → Env → Rs (Option Int)
  | none, env => .ok none env
  | some e, env => (ev Φ e env).bind fun x e1 => match x with
    | .fz (.int i) => .ok (some i) e1
    | _ => .no
termination_by structural e => e
def evc (Φ : Calls) : Option Ex → Env → Rs Bool
  | none, env => .ok true env
  | some e, env => evt Φ e env
termination_by structural e => e
/-- a test -/
def evt (Φ : Calls) : Ex → Env → Rs Bool
  | .not a, env => (evt Φ a env).bind fun c e => .ok (!c) e
  | .and a b, env => (evt Φ a env).bind fun c e => if c then evt Φ b e else .ok false e
  | .or a b, env => (evt Φ a env).bind fun c e => if c then .ok true e else evt Φ b e
  | .one a, env => evt Φ a env
  | .tst a, env => (ev Φ a env).bind fun x e => match look1 e x with
    | some d => ofO d.tru e
    | none => .no
  | _, _ => .no
termination_by structural e => e
/-- what a for walks -/
def evi (Φ : Calls) : Ex → Env → Rs (List D × Option (Nat × SV))
  | .seq a, env => (ev Φ a env).bind fun x e => ofO (source e x) e
  | .rng1 a, env => (ev Φ a env).bind fun x e => match x with
    | .fz (.int j) => if small62 j then .ok (rngD 0 j, none) e else .no
    | _ => .no
  | .rng2 a b, env => (ev Φ a env).bind fun x e => (ev Φ b e).bind fun y e2 => match x, y with
    | .fz (.int i), .fz (.int j) => if small62 i && small62 j then .ok (rngD i j, none) e2 else .no
    | _, _ => .no
  | .enm a, env => (ev Φ a env).bind fun x e => if isStr x then .no else (match source e x with
    | some (ds, lk) => .ok (enumD 0 ds, lk) e
    | none => .no)
  | _, _ => .no
termination_by structural e => e
end
/-! ### what statements do -/
inductive Fl where | nx | ret (r : RV) | brk | cnt
  deriving Inhabited
def forLoop (lk : Option (Nat × SV)) (t : Tg) (body : Env → Rs Fl) : List D → Env → Rs Fl
  | [], env => if held lk env then .ok .nx env else .no
  | d :: ds, env => if held lk env then (match tgt t d env with
      | some e => (body e).bind fun f e2 => match f with
        | .nx => forLoop lk t body ds e2
        | .cnt => forLoop lk t body ds e2
        | .brk => if held lk e2 then .ok .nx e2 else .no
        | .ret r => if held lk e2 then .ok (.ret r) e2 else .no
      | none => .no) else .no
def whlLoop (c : Env → Rs Bool) (body : Env → Rs Fl) : Nat → Env → Rs Fl
  | 0, _ => .no
  | n + 1, env => (c env).bind fun b e => if b then (body e).bind fun f e2 => (match f with
      | .nx => whlLoop c body n e2
      | .cnt => whlLoop c body n e2
      | .brk => .ok .nx e2
      | .ret r => .ok (.ret r) e2) else .ok .nx e
/-- what is returned: data, an object of the frame's own, or a slot's object, which leaves its slot -/
def leave (env : Env) : RV → Option (RV × Env)
  | .vw i => match env[i]? with
    | some (.ow n d) => some (.ow n d, env.set i .un)
    | _ => none
  | r => some (r, env)
def sets : List Nat → List RV → Env → Option Env
  | [], [], env => some env
  | i :: is, r :: rs, env => (store env i r).bind fun e => sets is rs e
  | _, _, _ => none
/-- what an own exception may be made of -/
def exArg : D → Bool
  | .str x => decide ((reprText x).length ≤ 100000)
  | _ => false
def isVw : RV → Bool
  | .vw _ => true
  | _ => false
def exc (Φ : Calls) (W : Nat) : Sm → Env → Rs Fl
  | .skip, env => .ok .nx env
  | .pass, env => .ok .nx env
  | .brk, env => .ok .brk env
  | .cnt, env => .ok .cnt env
  | .seq a b, env => (exc Φ W a env).bind fun f e => match f with
    | .nx => exc Φ W b e
    | f => .ok f e
  | .set i e, env => (ev Φ e env).bind fun r e1 => ofO ((store e1 i r).map fun e2 => (Fl.nx, e2)) e1 |>.bind fun p _ => .ok p.1 p.2
  | .unp t e, env => (ev Φ e env).bind fun r e1 => match r, t with
    | .fz d, t => (match tgt t d e1 with | some e2 => .ok .nx e2 | none => .no)
    | .ow (n + 1) (.tup ds), .tp ts => (match tgtO n ts ds e1 with | some e2 => .ok .nx e2 | none => .no)
    | _, _ => .no
  | .aug i o e, env => match env[i]? with
    | some (.fz x) => (ev Φ e env).bind fun r e1 => (match e1[i]?, see e1 r with
      | some (.fz x'), some y => if x' = x && x.flat && y.flat then (match bop o x y with
        | some z => .ok .nx (e1.set i (.fz z))
        | none => .no) else .no
      | _, _ => .no)
    | _ => .no
  | .par is es, env => (evs Φ es env).bind fun rs e1 => if rs.any isVw then .no else (match sets is rs e1 with
    | some e2 => .ok .nx e2
    | none => .no)
  | .sidx i k e, env => (ev Φ e env).bind fun r e1 => if (obj e1 i).isSome then (ev Φ k e1).bind fun q e2 => (match keep e2 r, q with
    | some (x, e3), .fz kd => (match e3[i]? with
      | some (.ow 1 d) => (match sidxD d kd x with | some d' => .ok .nx (e3.set i (.ow 1 d')) | none => .no)
      | some (.pn 1 d) => (match sidxD d kd x with | some d' => .ok .nx (e3.set i (.pn 1 d')) | none => .no)
      | _ => .no)
    | _, _ => .no) else .no
  | .expr e, env => (ev Φ e env).bind fun _ e1 => .ok .nx e1
  | .ret e, env => (ev Φ e env).bind fun r e1 => match leave e1 r with
    | some (r, e2) => .ok (.ret r) e2
    | none => .no
  | .retn, env => .ok (.ret (.fz .non)) env
  | .ifs c a b, env => (evt Φ c env).bind fun c e => if c then exc Φ W a e else exc Φ W b e
  | .for_ t src b, env => (evi Φ src env).bind fun s e => (forLoop s.2 t (fun e => exc Φ W b e) s.1 (lockE s.2 e)).bind fun f e2 => .ok f (unlockE s.2 e2)
  | .whl c b, env => whlLoop (fun e => evt Φ c e) (fun e => exc Φ W b e) W env
  | .raise c es, env => (evs Φ es env).bind fun rs e => match keeps rs e with
    | some ([d], _) => if exArg d then .ex ⟨c, d⟩ else .no
    | _ => .no
end Mi
end
section
set_option Elab.async false
set_option linter.all false
set_option maxRecDepth 100000
namespace Mi
open PySem L2
/-! ### a row of the text and its plain form -/
structure Cfg where
  fns : List Str
  globs : List (Str × D)
  exns : List Str
def vis (sc : Scope) (x : Str) : Bool := (match sc.names.lookup x with
  | some .local => true | some .cell => true | some .free => true | _ => false) && !(x == ("__debug__" : Str)) && !(x == ("__classdict__" : Str))
def loc (sc : Scope) (x : Str) : Bool := match sc.names.lookup x with
  | some .local => true | some .cell => true | _ => false
def gl (sc : Scope) (x : Str) : Bool := (match sc.names.lookup x with
  | some .globalImplicit => true | _ => false) && !(x == ("__debug__" : Str)) && !(x == ("__name__" : Str))
def slotOk (N : List Str) (sc : Scope) (i : Nat) (e : Expr) : Bool := match e with
  | .Name x _ => decide (N[i]? = some x) && vis sc x
  | _ => false
def bopOf : Bop → Operator
  | .add => .Add | .sub => .Sub | .mul => .Mult | .fdv => .FloorDiv | .mod => .Mod | .pow => .Pow | .band => .BitAnd | .bor => .BitOr | .shl => .LShift | .shr => .RShift
def isBop (o : Bop) (p : Operator) : Bool := match o, p with
  | .add, .Add => true | .sub, .Sub => true | .mul, .Mult => true | .fdv, .FloorDiv => true | .mod, .Mod => true | .pow, .Pow => true
  | .band, .BitAnd => true | .bor, .BitOr => true | .shl, .LShift => true | .shr, .RShift => true | _, _ => false
def copOf : Cop → CmpOp
  | .eq => .Eq | .ne => .NotEq | .lt => .Lt | .le => .LtE | .gt => .Gt | .ge => .GtE | .isin => .In | .notin => .NotIn | .is => .Is | .isnot => .IsNot
def isCop (o : Cop) (p : CmpOp) : Bool := match o, p with
  | .eq, .Eq => true | .ne, .NotEq => true | .lt, .Lt => true | .le, .LtE => true | .gt, .Gt => true | .ge, .GtE => true
  | .isin, .In => true | .notin, .NotIn => true | .is, .Is => true | .isnot, .IsNot => true | _, _ => false
def bltName : Blt → Str
  | .len => "len" | .int => "int" | .abs => "abs" | .all => "all" | .any => "any" | .sum => "sum" | .tuple => "tuple" | .list => "list" | .listrev => "list" | .max2 => "max" | .min2 => "min"
def metName : Met → Str
  | .index => "index"
def mutName : Mut → Str
  | .app => "append" | .pop => "pop" | .setd => "setdefault"
def mutAr : Mut → Nat
  | .app => 1 | .pop => 0 | .setd => 2
def isName (x : Str) : Expr → Bool
  | .Name y _ => decide (y = x)
  | _ => false
def glName (sc : Scope) (x : Str) : Expr → Bool
  | .Name y _ => decide (y = x) && gl sc x
  | _ => false
def tyNames (sc : Scope) : List String → List Expr → Bool
  | [], [] => true
  | t :: ts, e :: es => glName sc (Str.ofString t) e && tyNames sc ts es
  | _, _ => false
def okTy (t : String) : Bool := ["bool", "int", "str", "list", "tuple", "dict"].contains t
mutual
def mTg (N : List Str) (sc : Scope) : Tg → Expr → Bool
  | .nm i, .Name x _ => decide (N[i]? = some x) && loc sc x
  | .tp ts, .Tuple es _ _ => mTgs N sc ts es
  | _, _ => false
def mTgs (N : List Str) (sc : Scope) : List Tg → List Expr → Bool
  | [], [] => true
  | t :: ts, e :: es => mTg N sc t e && mTgs N sc ts es
  | _, _ => false
end
def mK : D → Const → Bool
  | .non, .none => true
  | .bl a, .bool b => decide (a = b)
  | .int a, .int b => decide (a = b)
  | .str a, .str b => decide (a = b)
  | _, _ => false
def notSl : Expr → Bool
  | .Slice .. => false
  | _ => true
mutual
def tgIn (vs : List Nat) : Tg → Bool
  | .nm i => vs.contains i
  | .tp ts => tgIns vs ts
def tgIns (vs : List Nat) : List Tg → Bool
  | [] => true
  | t :: ts => tgIn vs t && tgIns vs ts
end
mutual
def mE (C : Cfg) (N : List Str) (sc : Scope) : Ex → Expr → Bool
  | .var i, e => slotOk N sc i e
  | .frz i, e => slotOk N sc i e
  | .mv i, e => slotOk N sc i e
  | .cst d, .Constant c _ _ => mK d c
  | .glb x d, .Name y _ => decide (y = x) && gl sc x && C.globs.contains (x, d)
  | .tup _ es, .Tuple es' _ _ => mEs C N sc es es'
  | .lst _ es, .List es' _ => mEs C N sc es es'
  | .dk0, .Dict [] [] _ => true
  | .dt0, .Dict [] [] _ => true
  | .bin o a b, .BinOp a' o' b' _ => isBop o o' && mE C N sc a a' && mE C N sc b b'
  | .neg a, .UnaryOp .USub a' _ => mE C N sc a a'
  | .cmp o a b, .Compare a' [o'] [b'] _ => isCop o o' && mE C N sc a a' && mE C N sc b b'
  | .chn o p a b c, .Compare a' [o', p'] [b', c'] _ => isCop o o' && isCop p p' && mE C N sc a a' && mE C N sc b b' && mE C N sc c c'
  | .and a b, .BoolOp .And (x :: y) _ => mE C N sc a x && mBo C N sc true b y
  | .or a b, .BoolOp .Or (x :: y) _ => mE C N sc a x && mBo C N sc false b y
  | .not a, .UnaryOp .Not a' _ => mE C N sc a a'
  | .ifx c a b, .IfExp c' a' b' _ => mT C N sc c c' && mE C N sc a a' && mE C N sc b b'
  | .call f es, .Call (.Name x _) es' [] _ => decide (C.fns[f]? = some x) && gl sc x && mEs C N sc es es'
  | .blt .listrev [a], .Call f' [.Call g' [a'] [] _] [] _ => glName sc "list" f' && glName sc "reversed" g' && mE C N sc a a'
  | .blt .listrev _, _ => false
  | .blt f es, .Call f' es' [] _ => !es'.isEmpty && glName sc (bltName f) f' && mEs C N sc es es'
  | .isi [t] a, .Call f' [a', t'] [] _ => glName sc "isinstance" f' && okTy t && mE C N sc a a' && glName sc (Str.ofString t) t'
  | .isi ts a, .Call f' [a', .Tuple es _ _] [] _ => glName sc "isinstance" f' && ts.all okTy && decide (ts.length ≤ 8) && mE C N sc a a' && tyNames sc ts es
  | .met m a es, .Call (.Attribute a' x p) es' [] q => decide (x = metName m) && (match a' with | .Call .. => false | _ => true) && (p.endLine == q.line) && mE C N sc a a' && mEs C N sc es es' && es.length == 1
  | .mut m i es, .Call (.Attribute a' x p) es' [] q => decide (x = mutName m) && (p.endLine == q.line) && slotOk N sc i a' && mEs C N sc es es' && es.length == mutAr m
  | .idx a b, .Subscript a' b' _ => notSl b' && mE C N sc a a' && mE C N sc b b'
  | .slc a lo hi, .Subscript a' (.Slice lo' hi' none _) _ => mE C N sc a a' && mO C N sc lo lo' && mO C N sc hi hi'
  | .lcp own tg src c e, .ListComp e' [⟨tg', it', ifs', 0⟩] scope _ => blkC N sc scope own && tgIn (own.map (·.2)) tg && mTg N scope tg tg' && mI C N sc src tg' it' && mC C N (relS scope sc) c ifs' && mE C N (relS scope sc) e e'
  | .dcp own tg src c k e, .DictComp k' e' [⟨tg', it', ifs', 0⟩] scope _ => blkC N sc scope own && tgIn (own.map (·.2)) tg && mTg N scope tg tg' && mI C N sc src tg' it' && mC C N (relS scope sc) c ifs' && mE C N (relS scope sc) k k' && mE C N (relS scope sc) e e'
  | _, _ => false
termination_by structural e => e
def mEs (C : Cfg) (N : List Str) (sc : Scope) : List Ex → List Expr → Bool
  | [], [] => true
  | e :: r, e' :: r' => mE C N sc e e' && mEs C N sc r r'
  | _, _ => false
termination_by structural e => e
def mO (C : Cfg) (N : List Str) (sc : Scope) : Option Ex → Option Expr → Bool
  | none, none => true
  | some e, some e' => mE C N sc e e'
  | _, _ => false
termination_by structural e => e
def mC (C : Cfg) (N : List Str) (sc : Scope) : Option Ex → List Expr → Bool
  | none, [] => true
  | some e, [e'] => mT C N sc e e'
  | _, _ => false
termination_by structural e => e
/-- the rest of a row of and, of or -/
def mBo (C : Cfg) (N : List Str) (sc : Scope) (k : Bool) : Ex → List Expr → Bool
  | .one a, [y] => mE C N sc a y
  | .and a b, x :: y => k && mE C N sc a x && mBo C N sc k b y
  | .or a b, x :: y => !k && mE C N sc a x && mBo C N sc k b y
  | _, _ => false
termination_by structural e => e
def mT (C : Cfg) (N : List Str) (sc : Scope) : Ex → Expr → Bool
  | .not a, .UnaryOp .Not a' _ => mT C N sc a a'
  | .and a b, .BoolOp .And (x :: y) _ => mT C N sc a x && mTo C N sc true b y
  | .or a b, .BoolOp .Or (x :: y) _ => mT C N sc a x && mTo C N sc false b y
  | .tst a, e => mE C N sc a e && (match e with | .UnaryOp .Not .. => false | .BoolOp .. => false | .IfExp .. => false | _ => true)
  | _, _ => false
termination_by structural e => e
def mTo (C : Cfg) (N : List Str) (sc : Scope) (k : Bool) : Ex → List Expr → Bool
  | .one a, [y] => mT C N sc a y
  | .and a b, x :: y => k && mT C N sc a x && mTo C N sc k b y
  | .or a b, x :: y => !k && mT C N sc a x && mTo C N sc k b y
  | _, _ => false
termination_by structural e => e
def mI (C : Cfg) (N : List Str) (sc : Scope) : Ex → Expr → Expr → Bool
  | .seq a, _, e => mE C N sc a e
  | .rng1 a, _, .Call f' [a'] [] _ => glName sc "range" f' && mE C N sc a a'
  | .rng2 a b, _, .Call f' [a', b'] [] _ => glName sc "range" f' && mE C N sc a a' && mE C N sc b b'
  | .enm a, .Tuple _ _ _, .Call f' [a'] [] _ => glName sc "enumerate" f' && mE C N sc a a'
  | _, _, _ => false
termination_by structural e => e
end
def plainE : Expr → Bool
  | .ListComp .. => false | .SetComp .. => false | .DictComp .. => false | _ => true
/-- a list or dict comprehension given to a name of its own row: the swap of stores is made, or not -/
def swapT (sc : Scope) (x : Str) (px : Pos) (scope : Scope) (pv : Pos) : Bool :=
  (match sc.kind with | .function => true | _ => false) && decide (sc.names.lookup x = some .local) && (px.line == pv.line) && !(scope.names.any fun (n, k) => n == x && (k == .local || k == .cell))
def setOk (sc : Scope) (x : Str) (px : Pos) : Expr → Bool
  | .ListComp _ _ scope pv => swapT sc x px scope pv || decide (sc.names.lookup x = some .cell)
  | .DictComp _ _ _ scope pv => swapT sc x px scope pv || decide (sc.names.lookup x = some .cell)
  | .SetComp .. => false
  | _ => true
def nmsOk (N : List Str) (sc : Scope) : List Nat → List Expr → Bool
  | [], [] => true
  | i :: is, .Name x _ :: es => decide (N[i]? = some x) && decide (sc.names.lookup x = some .local) && nmsOk N sc is es
  | _, _ => false
def nodupN (is : List Nat) : Bool := decide is.Nodup
def parOk (es : List Expr) (ts : List Expr) : Bool :=
  (match ts with | .Name _ p :: .Name _ q :: [] => p.line == q.line | .Name _ p :: .Name _ q :: .Name _ r :: [] => p.line == q.line && p.line == r.line | _ => false) && !(es.all (foldedForSure 8)) && !(es.all (constantsAlone 8))
mutual
def mS (C : Cfg) (N : List Str) (sc : Scope) : Sm → Stmt → Bool
  | .pass, .Pass _ => true
  | .brk, .Break _ => true
  | .cnt, .Continue _ => true
  | .set i e, .Assign [.Name x px] e' _ => decide (N[i]? = some x) && loc sc x && setOk sc x px e' && mE C N sc e e'
  | .unp t e, .Assign [t'] e' _ => (match t' with | .Tuple .. => true | _ => false) && (match e' with | .Tuple .. => false | _ => plainE e') && mTg N sc t t' && mE C N sc e e'
  | .sidx i k e, .Assign [.Subscript a' k' _] e' _ => plainE e' && notSl k' && slotOk N sc i a' && mE C N sc k k' && mE C N sc e e'
  | .expr e, .Expr e' _ => plainE e' && mE C N sc e e'
  | .ret e, .Return (some e') _ => mE C N sc e e'
  | .retn, .Return none _ => true
  | .ifs c a b, .If c' a' b' _ => mT C N sc c c' && mB C N sc a a' && mB C N sc b b'
  | .for_ t src b, .For t' i' b' [] _ => mTg N sc t t' && mI C N sc src t' i' && mB C N sc b b'
  | .whl c b, .While c' b' [] _ => mT C N sc c c' && mB C N sc b b'
  | .raise c es, .Raise (some (.Call (.Name x _) es' [] _)) none _ => decide (C.exns[c]? = some x) && gl sc x && mEs C N sc es es' && (es'.length == 1)
  | _, _ => false
termination_by structural e => e
def mB (C : Cfg) (N : List Str) (sc : Scope) : Sm → List Stmt → Bool
  | .skip, [] => true
  | .seq a b, s :: r => mS C N sc a s && mB C N sc b r
  | _, _ => false
termination_by structural e => e
end
end Mi
end
section
set_option Elab.async false
set_option linter.all false
set_option maxRecDepth 100000
namespace Mi
open PySem L2
abbrev Frag := PySem.W.Frag
/-! ### readings, the weakest -/
section
variable (X : Cx)
def WE (e : Expr) (σ : L2.St) (H : Hp) (Q : VK) : Prop := ∃ t, PE X e t ∧ t σ H Q
def WT (e : Expr) (σ : L2.St) (H : Hp) (Q : Bool → Hp → Prop) : Prop := ∃ t, PT X e t ∧ t σ H Q
def WA (es : List Expr) (σ : L2.St) (H : Hp) (Q : List V → Hp → Prop) : Prop := ∃ t, PA X es t ∧ t σ H Q
def WI (tg it : Expr) (σ : L2.St) (H : Hp) (R : It → Hp → Prop) : Prop := ∃ t, PI X tg it t ∧ t σ H R
def WG (tg : Expr) (v : V) (σ : L2.St) (H : Hp) (Q : L2.St → Hp → Prop) : Prop := ∃ t, PG X tg t ∧ t v σ H Q
def WS (st : Stmt) (D : Ends) (σ : L2.St) (H : Hp) : Prop := ∃ t, PS X st t ∧ t D σ H
def WB (st : List Stmt) (D : Ends) (σ : L2.St) (H : Hp) : Prop := ∃ t, PSs X st t ∧ t D σ H
end
section
variable {X : Cx} {e : Expr} {es : List Expr} {st : Stmt} {sts : List Stmt} {tg it : Expr}
theorem WE.pe : PE X e (WE X e) := ⟨fun pins s σ H Q I ⟨_, h, q⟩ => h.run pins s σ H Q I q⟩
theorem WT.pt : PT X e (WT X e) := ⟨fun pins s σ H Q I ⟨_, h, q⟩ => h.run pins s σ H Q I q⟩
theorem WA.pa : PA X es (WA X es) := ⟨fun pos pins s σ H Q I ⟨_, h, q⟩ => h.run pos pins s σ H Q I q⟩
theorem WI.pi : PI X tg it (WI X tg it) := ⟨fun pins s σ H R I ⟨_, h, q⟩ => h.run pins s σ H R I q⟩
theorem WG.pg : PG X tg (WG X tg) := ⟨fun pins s σ H v u Q I r ⟨_, h, q⟩ => h.run pins s σ H v u Q I r q⟩
theorem WS.ps : PS X st (WS X st) := ⟨fun pins s σ H D I ⟨_, h, q⟩ => h.run pins s σ H D I q⟩
theorem WB.pss : PSs X sts (WB X sts) := ⟨fun pins s σ H D I ⟨_, h, q⟩ => h.run pins s σ H D I q⟩
theorem wE {t : TE} {σ : L2.St} {H : Hp} {Q : VK} (h : PE X e t) (q : t σ H Q) : WE X e σ H Q := ⟨t, h, q⟩
theorem wT {t : TT} {σ : L2.St} {H : Hp} {Q : Bool → Hp → Prop} (h : PT X e t) (q : t σ H Q) : WT X e σ H Q := ⟨t, h, q⟩
end
/-! ### data in a heap -/
def Sub (F H : Hp) : Prop := ∀ b u, F b = some u → H b = some u
theorem Sub.refl (F : Hp) : Sub F F := fun _ _ h => h
theorem Sub.trans {F G H : Hp} (a : Sub F G) (b : Sub G H) : Sub F H := fun x u h => b x u (a x u h)
theorem Sub.put1 {F : Hp} {p : Addr} {o : HO} (h : F p = none) : Sub F (upd F p o) := fun b u q => by rw [upd_ne (ne_of_none q h)]; exact q
theorem Sub.put2 {F H : Hp} {p : Addr} {o : HO} (s : Sub F H) : Sub (upd F p o) (upd H p o) := fun b u q => by
  by_cases e : b = p
  · subst e; rw [upd_same] at q ⊢; exact q
  · rw [upd_ne e] at q ⊢; exact s b u q
theorem Sub.putR {F H : Hp} {p : Addr} {o : HO} (s : Sub F H) (h : F p = none) : Sub F (upd H p o) := fun b u q => by
  rw [upd_ne (ne_of_none q h)]; exact s b u q
theorem Sub.no {F H : Hp} {p : Addr} (s : Sub F H) (h : H p = none) : F p = none := by
  cases q : F p with
  | none => rfl
  | some u => rw [s p u q] at h; cases h
theorem Rd.mono {F H : Hp} {a : Addr} {u : HO} (s : Sub F H) (r : Rd F a u) : Rd H a u := by
  rcases r with r | ⟨o, r⟩
  · exact .inl (s _ _ r)
  · exact .inr ⟨o, s _ _ r⟩
theorem SqL.mono {K : Frag} {F H : Hp} {a : Addr} {xs : List V} (s : Sub F H) (r : SqL K F a xs) : SqL K H a xs := by
  rcases r with r | r
  · exact .inl (Rd.mono s r)
  · exact .inr r
section
mutual
inductive At (F : Hp) : V → D → Prop
  | non : At F .non .non
  | bl (b : Bool) : At F (.bl b) (.bl b)
  | int (i : Int) : At F (.int i) (.int i)
  | str (x : Str) : At F (.str x) (.str x)
  | tup {a : Addr} {vs : List V} {ds : List D} : F a = some (.tup vs) → AtL F vs ds → At F (.ref a) (.tup ds)
  | lst {a : Addr} {vs : List V} {ds : List D} : Rd F a (.lst vs) → AtL F vs ds → At F (.ref a) (.lst ds)
  | dk {a : Addr} {kvs : List (Key × V)} {ds : List D} : F a = some (.dK kvs) → AtL F (kvs.map (·.2)) ds → At F (.ref a) (.dk (kvs.map (·.1)) ds)
  | dt {a : Addr} {kvs : List (List Key × V)} {ds : List D} : F a = some (.dT kvs) → AtL F (kvs.map (·.2)) ds → At F (.ref a) (.dt (kvs.map (·.1)) ds)
inductive AtL (F : Hp) : List V → List D → Prop
  | nil : AtL F [] []
  | cons {v : V} {vs : List V} {d : D} {ds : List D} : At F v d → AtL F vs ds → AtL F (v :: vs) (d :: ds)
end
end
section
variable {F G H : Hp}
mutual
theorem At.mono (s : Sub F G) : ∀ {v : V} {d : D}, At F v d → At G v d
  | _, _, .non => .non
  | _, _, .bl b => .bl b
  | _, _, .int i => .int i
  | _, _, .str x => .str x
  | _, _, .tup h q => .tup (s _ _ h) (AtL.mono s q)
  | _, _, .lst h q => .lst (Rd.mono s h) (AtL.mono s q)
  | _, _, .dk h q => .dk (s _ _ h) (AtL.mono s q)
  | _, _, .dt h q => .dt (s _ _ h) (AtL.mono s q)
theorem AtL.mono (s : Sub F G) : ∀ {vs : List V} {ds : List D}, AtL F vs ds → AtL G vs ds
  | _, _, .nil => .nil
  | _, _, .cons h q => .cons (At.mono s h) (AtL.mono s q)
end
theorem AtL.length : ∀ {vs : List V} {ds : List D}, AtL F vs ds → vs.length = ds.length
  | _, _, .nil => rfl
  | _, _, .cons _ q => by rw [List.length_cons, List.length_cons, AtL.length q]
theorem AtL.get : ∀ {vs : List V} {ds : List D} {i : Nat} {d : D}, AtL F vs ds → ds[i]? = some d → ∃ v, vs[i]? = some v ∧ At F v d
  | _, _, _, _, .nil, e => by simp at e
  | _, _, 0, _, .cons h _, e => by simp at e; subst e; exact ⟨_, by simp, h⟩
  | _, _, i + 1, d, .cons _ q, e => by
    obtain ⟨v, h1, h2⟩ := AtL.get (i := i) (d := d) q (by simpa using e)
    exact ⟨v, by simpa using h1, h2⟩
theorem AtL.getV : ∀ {vs : List V} {ds : List D} {i : Nat} {v : V}, AtL F vs ds → vs[i]? = some v → ∃ d, ds[i]? = some d ∧ At F v d
  | _, _, _, _, .nil, e => by simp at e
  | _, _, 0, _, .cons h _, e => by simp at e; subst e; exact ⟨_, by simp, h⟩
  | _, _, i + 1, v, .cons _ q, e => by
    obtain ⟨d, h1, h2⟩ := AtL.getV (i := i) (v := v) q (by simpa using e)
    exact ⟨d, by simpa using h1, h2⟩
theorem AtL.append : ∀ {vs ws : List V} {ds es : List D}, AtL F vs ds → AtL F ws es → AtL F (vs ++ ws) (ds ++ es)
  | _, _, _, _, .nil, q => q
  | _, _, _, _, .cons h t, q => .cons h (AtL.append t q)
theorem AtL.take : ∀ {vs : List V} {ds : List D} (n : Nat), AtL F vs ds → AtL F (vs.take n) (ds.take n)
  | _, _, 0, _ => .nil
  | _, _, _ + 1, .nil => .nil
  | _, _, n + 1, .cons h t => .cons h (AtL.take n t)
theorem AtL.drop : ∀ {vs : List V} {ds : List D} (n : Nat), AtL F vs ds → AtL F (vs.drop n) (ds.drop n)
  | _, _, 0, q => q
  | _, _, _ + 1, .nil => .nil
  | _, _, n + 1, .cons _ t => AtL.drop n t
theorem AtL.set {v : V} {d : D} (h : At F v d) : ∀ {vs : List V} {ds : List D} (i : Nat), AtL F vs ds → AtL F (vs.set i v) (ds.set i d)
  | _, _, _, .nil => .nil
  | _, _, 0, .cons _ t => .cons h t
  | _, _, i + 1, .cons q t => .cons q (AtL.set h i t)
theorem AtL.reverse : ∀ {vs : List V} {ds : List D}, AtL F vs ds → AtL F vs.reverse ds.reverse
  | _, _, .nil => .nil
  | _, _, .cons h t => by
    rw [List.reverse_cons, List.reverse_cons]
    exact AtL.append (AtL.reverse t) (.cons h .nil)
theorem AtL.dropLast {vs : List V} {ds : List D} (h : AtL F vs ds) : AtL F vs.dropLast ds.dropLast := by
  rw [List.dropLast_eq_take, List.dropLast_eq_take, h.length]
  exact AtL.take _ h
/-- flat data is its own value -/
theorem At.flat {v : V} {d : D} (h : At F v d) (f : d.flat = true) : v = d.toV := by
  cases h <;> first | rfl | cases f
theorem At.flatV {v : V} {d : D} (h : At F v d) (f : d.flat = true) : flatV v = true := by
  cases h <;> first | rfl | cases f
theorem At.of_flat {d : D} (f : d.flat = true) : At F d.toV d := by
  cases d <;> first | exact .non | exact .bl _ | exact .int _ | exact .str _ | cases f
mutual
theorem At.dp {K : Frag} : ∀ {v : V} {d : D}, At F v d → SeqAt.shaped d.toP = true → Dp K F v d.toP := by
  intro v d h s
  have c := SeqAt.canLay_of_shaped s
  exact At.dp0 h c
theorem At.dp0 {K : Frag} : ∀ {v : V} {d : D}, At F v d → d.toP.canLay0 = true → Dp K F v d.toP
  | _, _, .non, _ => .non
  | _, _, .bl b, _ => .bl b
  | _, _, .int i, _ => .int i
  | _, _, .str x, _ => .str x
  | _, _, .tup h q, c => .tup (SqT.of h) (AtL.dp0 q (by simpa [D.toP, PyData.canLay0] using c))
  | _, _, .lst h q, c => .lst (.inl h) (AtL.dp0 q (by simpa [D.toP, PyData.canLay0] using c))
  | _, _, .dk _ _, c => by simp [D.toP, PyData.canLay0] at c
  | _, _, .dt _ _, c => by simp [D.toP, PyData.canLay0] at c
theorem AtL.dp0 {K : Frag} : ∀ {vs : List V} {ds : List D}, AtL F vs ds → PyData.canLayAll0 (toPs ds) = true → DpAll K F vs (toPs ds)
  | _, _, .nil, _ => .nil
  | _, _, .cons h q, c => by
    rw [toPs, PyData.canLayAll0, Bool.and_eq_true] at c
    exact .cons (At.dp0 h c.1) (AtL.dp0 q c.2)
end
theorem AtL.flatV : ∀ {vs : List V} {ds : List D}, AtL F vs ds → ds.all D.flat = true → vs.all L2.flatV = true ∧ vs = ds.map D.toV
  | _, _, .nil, _ => ⟨rfl, rfl⟩
  | _, _, .cons h q, c => by
    rw [List.all_cons, Bool.and_eq_true] at c
    obtain ⟨h1, h2⟩ := AtL.flatV q c.2
    refine ⟨?_, ?_⟩
    · rw [List.all_cons, Bool.and_eq_true]; exact ⟨h.flatV c.1, h1⟩
    · rw [List.map_cons, ← h2, h.flat c.1]
end
/-! ### objects of one's own -/
section
variable (F H : Hp)
def Kids (R : (Addr → Prop) → V → D → Prop) (A : Addr → Prop) (a : Addr) (vs : List V) (ds : List D) : Prop :=
  vs.length = ds.length ∧ ∃ B : Nat → Addr → Prop, (∀ i b, B i b → A b ∧ b ≠ a) ∧ (∀ i j b, B i b → B j b → i = j) ∧ ∀ (i : Nat) v d, vs[i]? = some v → ds[i]? = some d → R (B i) v d
def Root (R : (Addr → Prop) → V → D → Prop) (A : Addr → Prop) (v : V) : D → Prop
  | .lst ds => ∃ a vs, v = .ref a ∧ A a ∧ H a = some (.lst vs) ∧ Kids R A a vs ds
  | .tup ds => ∃ a vs, v = .ref a ∧ A a ∧ H a = some (.tup vs) ∧ Kids R A a vs ds
  | .dk ks ds => ∃ a kvs, v = .ref a ∧ A a ∧ H a = some (.dK kvs) ∧ ks = kvs.map (·.1) ∧ Kids R A a (kvs.map (·.2)) ds
  | .dt ks ds => ∃ a kvs, v = .ref a ∧ A a ∧ H a = some (.dT kvs) ∧ ks = kvs.map (·.1) ∧ Kids R A a (kvs.map (·.2)) ds
  | d => At F v d
def Own : Nat → (Addr → Prop) → V → D → Prop
  | 0 => fun _ v d => At F v d
  | n + 1 => Root F H (Own n)
end
section
variable {F F' H H' : Hp}
theorem Kids.mono {R R' : (Addr → Prop) → V → D → Prop} {A A' : Addr → Prop} {a : Addr} {vs : List V} {ds : List D} (k : Kids R A a vs ds) (hA : ∀ b, A b → A' b)
    (h : ∀ B v d, (∀ b, B b → A b) → R B v d → R' B v d) : Kids R' A' a vs ds := by
  obtain ⟨l, B, h1, h2, h3⟩ := k
  exact ⟨l, B, fun i b q => ⟨hA b (h1 i b q).1, (h1 i b q).2⟩, h2, fun i v d e1 e2 => h _ _ _ (fun b q => (h1 i b q).1) (h3 i v d e1 e2)⟩
theorem Own.mono (s : Sub F F') : ∀ {n : Nat} {A A' : Addr → Prop} {v : V} {d : D}, (∀ b, A b → A' b) → (∀ b u, A b → H b = some u → H' b = some u) → Own F H n A v d → Own F' H' n A' v d
  | 0, _, _, _, _, _, _, h => At.mono s h
  | n + 1, A, A', v, d, hA, hH, h => by
    have kk : ∀ {a vs ds}, Kids (Own F H n) A a vs ds → Kids (Own F' H' n) A' a vs ds := fun k =>
      k.mono hA fun B v d hB r => Own.mono s (fun _ q => q) (fun b u q => hH b u (hB b q)) r
    cases d with
    | lst ds => obtain ⟨a, vs, e, ha, hh, k⟩ := h; exact ⟨a, vs, e, hA a ha, hH _ _ ha hh, kk k⟩
    | tup ds => obtain ⟨a, vs, e, ha, hh, k⟩ := h; exact ⟨a, vs, e, hA a ha, hH _ _ ha hh, kk k⟩
    | dk ks ds => obtain ⟨a, vs, e, ha, hh, e2, k⟩ := h; exact ⟨a, vs, e, hA a ha, hH _ _ ha hh, e2, kk k⟩
    | dt ks ds => obtain ⟨a, vs, e, ha, hh, e2, k⟩ := h; exact ⟨a, vs, e, hA a ha, hH _ _ ha hh, e2, kk k⟩
    | non => exact At.mono s h
    | bl b => exact At.mono s h
    | int b => exact At.mono s h
    | str b => exact At.mono s h
theorem atL_of {vs : List V} {ds : List D} (l : vs.length = ds.length) (h : ∀ (i : Nat) v d, vs[i]? = some v → ds[i]? = some d → At F v d) : AtL F vs ds := by
  induction vs generalizing ds with
  | nil => cases ds with
    | nil => exact .nil
    | cons _ _ => simp at l
  | cons v vs ih => cases ds with
    | nil => simp at l
    | cons d ds => exact .cons (h 0 v d (by simp) (by simp)) (ih (by simpa using l) fun i v d e1 e2 => h (i + 1) v d (by simpa using e1) (by simpa using e2))
/-- what it is, read where its cells stand -/
theorem Own.at {G : Hp} (s : Sub F G) : ∀ {n : Nat} {A : Addr → Prop} {v : V} {d : D}, (∀ b u, A b → H b = some u → G b = some u) → Own F H n A v d → At G v d
  | 0, _, _, _, _, h => At.mono s h
  | n + 1, A, v, d, hG, h => by
    have kk : ∀ {a vs ds}, Kids (Own F H n) A a vs ds → AtL G vs ds := fun ⟨l, B, h1, h2, h3⟩ =>
      atL_of l fun i v d e1 e2 => Own.at s (fun b u q => hG b u (h1 i b q).1) (h3 i v d e1 e2)
    cases d with
    | lst ds => obtain ⟨a, vs, rfl, ha, hh, k⟩ := h; exact .lst (Rd.of (hG _ _ ha hh)) (kk k)
    | tup ds => obtain ⟨a, vs, rfl, ha, hh, k⟩ := h; exact .tup (hG _ _ ha hh) (kk k)
    | dk ks ds => obtain ⟨a, vs, rfl, ha, hh, rfl, k⟩ := h; exact .dk (hG _ _ ha hh) (kk k)
    | dt ks ds => obtain ⟨a, vs, rfl, ha, hh, rfl, k⟩ := h; exact .dt (hG _ _ ha hh) (kk k)
    | non => exact At.mono s h
    | bl b => exact At.mono s h
    | int b => exact At.mono s h
    | str b => exact At.mono s h
theorem kids1 {A : Addr → Prop} {a : Addr} {vs : List V} {ds : List D} : Kids (Own F H 0) A a vs ds ↔ AtL F vs ds := by
  constructor
  · intro ⟨l, B, _, _, h3⟩
    exact atL_of l fun i v d e1 e2 => h3 i v d e1 e2
  · intro h
    refine ⟨h.length, fun _ _ => False, fun _ _ q => q.elim, fun _ _ _ q => q.elim, fun i v d e1 e2 => ?_⟩
    obtain ⟨v', e3, q⟩ := h.get e2
    rw [e1] at e3; cases e3; exact q
/-- read from the heap at its root, its parts frozen -/
def Pk (F H : Hp) (v : V) : D → Prop
  | .lst ds => ∃ a vs, v = .ref a ∧ Rd H a (.lst vs) ∧ AtL F vs ds
  | .tup ds => ∃ a vs, v = .ref a ∧ F a = some (.tup vs) ∧ AtL F vs ds
  | .dk ks ds => ∃ a kvs, v = .ref a ∧ H a = some (.dK kvs) ∧ ks = kvs.map (·.1) ∧ AtL F (kvs.map (·.2)) ds
  | .dt ks ds => ∃ a kvs, v = .ref a ∧ H a = some (.dT kvs) ∧ ks = kvs.map (·.1) ∧ AtL F (kvs.map (·.2)) ds
  | d => v = d.toV
theorem Pk.of_at {v : V} {d : D} (s : Sub F H) (h : At F v d) : Pk F H v d := by
  cases h with
  | non => exact rfl
  | bl b => exact rfl
  | int b => exact rfl
  | str b => exact rfl
  | tup h q => exact ⟨_, _, rfl, h, q⟩
  | lst h q => exact ⟨_, _, rfl, Rd.mono s h, q⟩
  | dk h q => exact ⟨_, _, rfl, s _ _ h, rfl, q⟩
  | dt h q => exact ⟨_, _, rfl, s _ _ h, rfl, q⟩
theorem Pk.of_own {A : Addr → Prop} {v : V} {n : Nat} {d d' : D} (h : Own F H n A v d) (e : flatter n d = some d') : Pk F H v d' := by
  unfold flatter at e
  split at e
  · cases e; obtain ⟨a, vs, e, _, hh, k⟩ := h; exact ⟨a, vs, e, Rd.of hh, kids1.1 k⟩
  · cases e; obtain ⟨a, vs, e, _, hh, e2, k⟩ := h; exact ⟨a, vs, e, hh, e2, kids1.1 k⟩
  · cases e; obtain ⟨a, vs, e, _, hh, e2, k⟩ := h; exact ⟨a, vs, e, hh, e2, kids1.1 k⟩
  · cases e
theorem Pk.at {v : V} {d : D} (s : Sub F H) (h : Pk F H v d) : At H v d := by
  cases d with
  | lst ds => obtain ⟨a, vs, rfl, hh, k⟩ := h; exact .lst hh (k.mono s)
  | tup ds => obtain ⟨a, vs, rfl, hh, k⟩ := h; exact .tup (s _ _ hh) (k.mono s)
  | dk ks ds => obtain ⟨a, vs, rfl, hh, rfl, k⟩ := h; exact .dk hh (k.mono s)
  | dt ks ds => obtain ⟨a, vs, rfl, hh, rfl, k⟩ := h; exact .dt hh (k.mono s)
  | non => rw [show v = _ from h]; exact .non
  | bl b => rw [show v = _ from h]; exact .bl b
  | int b => rw [show v = _ from h]; exact .int b
  | str b => rw [show v = _ from h]; exact .str b
end
/-! ### steps of the heap -/
structure Step (M : Addr → Prop) (F H : Hp) (M' : Addr → Prop) (F' H' : Hp) : Prop where
  sub : Sub F F'
  new : ∀ b u, F' b = some u → F b = some u ∨ H b = none ∨ M b
  keep : ∀ b u, H b = some u → ¬ M b → H' b = some u
  foot : ∀ b, M' b → M b ∨ H b = none
  there : ∀ b, H' b = none → H b = none
theorem Step.refl {M : Addr → Prop} {F H : Hp} : Step M F H M F H := ⟨Sub.refl F, fun _ _ h => .inl h, fun _ _ h _ => h, fun _ h => .inl h, fun _ h => h⟩
theorem Step.trans {M M' M'' : Addr → Prop} {F H F' H' F'' H'' : Hp} (a : Step M F H M' F' H') (b : Step M' F' H' M'' F'' H'') : Step M F H M'' F'' H'' where
  sub := a.sub.trans b.sub
  new := fun x u h => by
    rcases b.new x u h with q | q | q
    · exact a.new x u q
    · exact .inr (.inl (a.there x q))
    · rcases a.foot x q with r | r
      · exact .inr (.inr r)
      · exact .inr (.inl r)
  keep := fun x u h n => b.keep x u (a.keep x u h n) fun q => by
    rcases a.foot x q with r | r
    · exact n r
    · rw [r] at h; cases h
  foot := fun x q => by
    rcases b.foot x q with r | r
    · exact a.foot x r
    · exact .inr (a.there x r)
  there := fun x q => a.there x (b.there x q)
theorem Step.weak {M N M' N' : Addr → Prop} {F H F' H' : Hp} (a : Step M F H M' F' H') (h : ∀ b, M b → N b) (h' : ∀ b, N' b → M' b ∨ N b ∨ H b = none) : Step N F H N' F' H' where
  sub := a.sub
  new := fun x u q => by
    rcases a.new x u q with r | r | r
    · exact .inl r
    · exact .inr (.inl r)
    · exact .inr (.inr (h x r))
  keep := fun x u q n => a.keep x u q fun r => n (h x r)
  foot := fun x q => by
    rcases h' x q with r | r
    · rcases a.foot x r with z | z
      · exact .inl (h x z)
      · exact .inr z
    · exact r
  there := a.there
end Mi
end
section
set_option Elab.async false
set_option linter.all false
set_option maxRecDepth 100000
namespace Mi
open PySem L2
section
variable (F H : Hp)
def SlotOk (A : Addr → Prop) (ov : Option V) : SV → Prop
  | .un => True
  | .fz d => ∃ v, ov = some v ∧ At F v d
  | .ow n d => ∃ v, ov = some v ∧ Own F H n A v d
  | .pn n d => ∃ v, ov = some v ∧ Own F H n A v d
def RvOk (σ : L2.St) (A : Addr → Prop) (v : V) : RV → Prop
  | .fz d => At F v d
  | .ow n d => Own F H n A v d
  | .vw i => σ[i]? = some (some v)
def cov (fp : Nat → Addr → Prop) : Addr → Prop := fun b => ∃ i, fp i b
def Nof (A : Addr → Prop) : Prop := ∀ b, A b → F b = none ∧ ∃ u, H b = some u
structure Stt (σ : L2.St) (env : Env) (fp : Nat → Addr → Prop) (pv : Nat → Option V) : Prop where
  sub : Sub F H
  len : σ.length = env.length
  sl : ∀ i s, env[i]? = some s → SlotOk F H (fp i) (σ[i]?).join s
  dis : ∀ i j b, fp i b → fp j b → i = j
  nof : Nof F H (cov fp)
  pin : ∀ i n d, env[i]? = some (.pn n d) → σ[i]? = some (pv i)
end
def Apart (A B : Addr → Prop) : Prop := ∀ b, A b → B b → False
def or2 (A B : Addr → Prop) : Addr → Prop := fun b => A b ∨ B b
section
variable {F F' H H' : Hp} {σ σ' : L2.St} {env env' : Env} {fp fp' : Nat → Addr → Prop} {pv : Nat → Option V} {A B M M' : Addr → Prop} {v : V} {r : RV} {d : D}
theorem Nof.step (n : Nof F H A) (st : Step M F H M' F' H') (a : Apart A M) : Nof F' H' A := fun b q => by
  obtain ⟨h1, u, h2⟩ := n b q
  refine ⟨?_, u, st.keep b u h2 fun m => a b q m⟩
  cases e : F' b with
  | none => rfl
  | some w =>
    rcases st.new b w e with z | z | z
    · rw [h1] at z; cases z
    · rw [h2] at z; cases z
    · exact (a b q z).elim
theorem Apart.step (n : Nof F H A) (st : Step M F H M' F' H') (a : Apart A M) : Apart A M' := fun b q m => by
  rcases st.foot b m with z | z
  · exact a b q z
  · obtain ⟨_, u, h2⟩ := n b q
    rw [h2] at z; cases z
theorem Own.step {n : Nat} (h : Own F H n A v d) (no : Nof F H A) (st : Step M F H M' F' H') (a : Apart A M) : Own F' H' n A v d :=
  Own.mono st.sub (fun _ q => q) (fun b u q e => st.keep b u e fun m => a b q m) h
theorem RvOk.step (h : RvOk F H σ A v r) (no : Nof F H A) (st : Step M F H M' F' H') (a : Apart A M) : RvOk F' H' σ A v r := by
  cases r with
  | fz d => exact At.mono st.sub h
  | ow n d => exact Own.step h no st a
  | vw i => exact h
theorem Apart.symm (a : Apart A B) : Apart B A := fun b x y => a b y x
/-- a change of the heap that touches nothing of the slots' -/
theorem Stt.prim (S : Stt F H σ env fp pv) (st : Step A F H B F' H') (sub : Sub F' H') (a : Apart (cov fp) A) : Stt F' H' σ env fp pv where
  sub := sub
  len := S.len
  sl := fun i s e => by
    have q := S.sl i s e
    have ai : Apart (fp i) A := fun b x y => a b ⟨i, x⟩ y
    have ni : Nof F H (fp i) := fun b x => S.nof b ⟨i, x⟩
    cases s with
    | un => trivial
    | fz d => obtain ⟨w, e1, h⟩ := q; exact ⟨w, e1, At.mono st.sub h⟩
    | ow n d => obtain ⟨w, e1, h⟩ := q; exact ⟨w, e1, Own.step h ni st ai⟩
    | pn n d => obtain ⟨w, e1, h⟩ := q; exact ⟨w, e1, Own.step h ni st ai⟩
  dis := S.dis
  nof := Nof.step S.nof st a
  pin := S.pin
/-- frozen: the cells of A are data from now on -/
noncomputable def frzn (A : Addr → Prop) (F H : Hp) : Hp := fun b => by classical exact if A b then H b else F b
theorem frzn_in {b : Addr} (h : A b) : frzn A F H b = H b := by unfold frzn; simp [h]
theorem frzn_out {b : Addr} (h : ¬ A b) : frzn A F H b = F b := by unfold frzn; simp [h]
theorem frzn_sub (n : Nof F H A) : Sub F (frzn A F H) := fun b u q => by
  by_cases h : A b
  · rw [(n b h).1] at q; cases q
  · rw [frzn_out h]; exact q
theorem frzn_le (s : Sub F H) : Sub (frzn A F H) H := fun b u q => by
  by_cases h : A b
  · rw [frzn_in h] at q; exact q
  · rw [frzn_out h] at q; exact s b u q
theorem frzn_step (n : Nof F H A) : Step (or2 M A) F H M (frzn A F H) H where
  sub := frzn_sub n
  new := fun b u q => by
    by_cases h : A b
    · exact .inr (.inr (.inr h))
    · rw [frzn_out h] at q; exact .inl q
  keep := fun b u q _ => q
  foot := fun b q => .inl (.inl q)
  there := fun _ q => q
theorem Own.frzn {n : Nat} (s : Sub F H) (no : Nof F H A) (h : Own F H n A v d) : At (frzn A F H) v d :=
  Own.at (frzn_sub no) (fun b u q e => by rw [frzn_in q]; exact e) h
/-- a step by A alone, seen beside what the slots hold -/
theorem frzn_alone (n : Nof F H A) : Step A F H (fun _ => False) (Mi.frzn A F H) H where
  sub := frzn_sub n
  new := fun b u q => by
    by_cases h : A b
    · exact .inr (.inr h)
    · rw [frzn_out h] at q; exact .inl q
  keep := fun b u q _ => q
  foot := fun b q => q.elim
  there := fun _ q => q
theorem set_get {α : Type} {l : List α} {i j : Nat} {a b : α} (h : (l.set i a)[j]? = some b) : (i = j ∧ b = a ∧ j < l.length) ∨ (i ≠ j ∧ l[j]? = some b) := by
  by_cases e : i = j
  · subst e
    by_cases hl : i < l.length
    · rw [List.getElem?_set_self hl] at h; cases h; exact .inl ⟨rfl, rfl, hl⟩
    · rw [List.getElem?_eq_none (by simpa using hl)] at h; cases h
  · rw [List.getElem?_set_ne e] at h; exact .inr ⟨e, h⟩
def drop1 (fp : Nat → Addr → Prop) (i : Nat) : Nat → Addr → Prop := fun j b => j ≠ i ∧ fp j b
theorem drop1_cov {i : Nat} {b : Addr} (h : cov (drop1 fp i) b) : cov fp b := by
  obtain ⟨j, _, q⟩ := h; exact ⟨j, q⟩
theorem Stt.own (S : Stt F H σ env fp pv) {i n : Nat} (e : env[i]? = some (.ow n d)) : ∃ w, σ[i]? = some (some w) ∧ Own F H n (fp i) w d := by
  obtain ⟨w, e1, h⟩ := S.sl i _ e
  have : σ[i]? = some (some w) := by
    cases q : σ[i]? with
    | none => rw [q] at e1; cases e1
    | some o => rw [q] at e1; cases o with
      | none => cases e1
      | some z => cases e1; rfl
  exact ⟨w, this, h⟩
theorem Stt.pinn (S : Stt F H σ env fp pv) {i n : Nat} (e : env[i]? = some (.pn n d)) : ∃ w, σ[i]? = some (some w) ∧ Own F H n (fp i) w d := by
  obtain ⟨w, e1, h⟩ := S.sl i _ e
  have : σ[i]? = some (some w) := by
    cases q : σ[i]? with
    | none => rw [q] at e1; cases e1
    | some o => rw [q] at e1; cases o with
      | none => cases e1
      | some z => cases e1; rfl
  exact ⟨w, this, h⟩
theorem Stt.fzn (S : Stt F H σ env fp pv) {i : Nat} (e : env[i]? = some (.fz d)) : ∃ w, σ[i]? = some (some w) ∧ At F w d := by
  obtain ⟨w, e1, h⟩ := S.sl i _ e
  have : σ[i]? = some (some w) := by
    cases q : σ[i]? with
    | none => rw [q] at e1; cases e1
    | some o => rw [q] at e1; cases o with
      | none => cases e1
      | some z => cases e1; rfl
  exact ⟨w, this, h⟩
theorem Stt.objn (S : Stt F H σ env fp pv) {i n : Nat} (e : obj env i = some (n, d)) : ∃ w, σ[i]? = some (some w) ∧ Own F H n (fp i) w d := by
  unfold obj at e
  cases q : env[i]? with
  | none => rw [q] at e; cases e
  | some s => rw [q] at e; cases s with
    | un => cases e
    | fz d => cases e
    | ow m d' => cases e; exact S.own q
    | pn m d' => cases e; exact S.pinn q
/-- a slot's object is frozen -/
theorem Stt.freeze (S : Stt F H σ env fp pv) {i n : Nat} (e : env[i]? = some (.ow n d)) :
    Stt (Mi.frzn (fp i) F H) H σ (env.set i (.fz d)) (drop1 fp i) pv ∧ Step (cov fp) F H (cov (drop1 fp i)) (Mi.frzn (fp i) F H) H ∧ ∀ w, σ[i]? = some (some w) → At (Mi.frzn (fp i) F H) w d := by
  have ni : Nof F H (fp i) := fun b q => S.nof b ⟨i, q⟩
  obtain ⟨w, e1, h⟩ := S.own e
  have ha := Own.frzn S.sub ni h
  have st := frzn_alone (F := F) (H := H) ni
  refine ⟨⟨frzn_le S.sub, by rw [List.length_set]; exact S.len, fun j s q => ?_, fun j k b x y => S.dis j k b x.2 y.2, fun b q => ?_, fun j m d' q => ?_⟩, ?_, fun w' e' => by rw [e1] at e'; cases e'; exact ha⟩
  · rcases set_get q with ⟨rfl, rfl, _⟩ | ⟨ne, q⟩
    · exact ⟨w, by rw [e1]; rfl, ha⟩
    · have z := S.sl j s q
      have aj : Apart (fp j) (fp i) := fun b x y => ne (S.dis i j b y x)
      have nj : Nof F H (fp j) := fun b x => S.nof b ⟨j, x⟩
      have cv : ∀ b, fp j b → drop1 fp i j b := fun b x => ⟨fun e => ne e.symm, x⟩
      cases s with
      | un => trivial
      | fz d => obtain ⟨w, e1, h⟩ := z; exact ⟨w, e1, At.mono st.sub h⟩
      | ow n d => obtain ⟨w, e1, h⟩ := z; exact ⟨w, e1, Own.mono (Sub.refl _) cv (fun b u _ x => x) (Own.step h nj st aj)⟩
      | pn n d => obtain ⟨w, e1, h⟩ := z; exact ⟨w, e1, Own.mono (Sub.refl _) cv (fun b u _ x => x) (Own.step h nj st aj)⟩
  · obtain ⟨j, ne, q⟩ := q
    have aj : Apart (fp j) (fp i) := fun b x y => ne (S.dis j i b x y)
    have nj : Nof F H (fp j) := fun b x => S.nof b ⟨j, x⟩
    exact Nof.step nj st aj b q
  · rcases set_get q with ⟨_, z, _⟩ | ⟨_, q⟩
    · cases z
    · exact S.pin j m d' q
  · exact st.weak (fun b q => ⟨i, q⟩) fun b q => .inr (.inl (drop1_cov q))
/-- kept: what an expression gave, frozen -/
theorem keep_ok {env' : Env} (S : Stt F H σ env fp pv) (h : RvOk F H σ A v r) (no : Nof F H A) (ap : Apart A (cov fp)) (e : keep env r = some (d, env')) :
    ∃ F' fp', Stt F' H σ env' fp' pv ∧ Step (or2 (cov fp) A) F H (cov fp') F' H ∧ At F' v d := by
  cases r with
  | fz d' =>
    cases e
    exact ⟨F, fp, S, Step.refl.weak (fun b q => .inl q) fun b q => .inl q, h⟩
  | ow n d' =>
    cases e
    have st := frzn_alone (F := F) (H := H) no
    exact ⟨_, fp, S.prim st (frzn_le S.sub) ap.symm, frzn_step no, Own.frzn S.sub no h⟩
  | vw i =>
    unfold keep at e
    cases q : env[i]? with
    | none => simp [q] at e
    | some s => cases s with
      | un => simp [q] at e
      | fz d => simp [q] at e
      | pn n d => simp [q] at e
      | ow n d' =>
        simp [q] at e
        obtain ⟨rfl, rfl⟩ := e
        obtain ⟨S', st, ha⟩ := S.freeze q
        exact ⟨_, _, S', st.weak (fun b q => .inl q) fun b q => .inl q, ha v h⟩
end
/-! ### what several expressions gave -/
inductive Rvs (F H : Hp) (σ : L2.St) : (Addr → Prop) → List V → List RV → Prop
  | nil {A : Addr → Prop} : Rvs F H σ A [] []
  | cons {A B C : Addr → Prop} {v : V} {vs : List V} {r : RV} {rs : List RV} : (∀ b, B b → A b) → (∀ b, C b → A b) → Apart B C → RvOk F H σ B v r → Rvs F H σ C vs rs → Rvs F H σ A (v :: vs) (r :: rs)
section
variable {F F' H H' : Hp} {σ σ' : L2.St} {env env' : Env} {fp fp' : Nat → Addr → Prop} {pv : Nat → Option V} {A B M M' : Addr → Prop} {v : V} {r : RV} {d : D}
theorem Nof.le (n : Nof F H A) (h : ∀ b, B b → A b) : Nof F H B := fun b q => n b (h b q)
theorem Apart.le (n : Apart A M) (h : ∀ b, B b → A b) : Apart B M := fun b q => n b (h b q)
theorem Rvs.step {vs : List V} {rs : List RV} (st : Step M F H M' F' H') (h : Rvs F H σ A vs rs) : Nof F H A → Apart A M → Rvs F' H' σ A vs rs := by
  induction h with
  | nil => intro _ _; exact .nil
  | cons hB hC ab q _ ih =>
    intro no ap
    exact .cons hB hC ab (q.step (no.le hB) st (ap.le hB)) (ih (no.le hC) (ap.le hC))
theorem Rvs.length {vs : List V} {rs : List RV} (h : Rvs F H σ A vs rs) : vs.length = rs.length := by
  induction h with
  | nil => rfl
  | cons _ _ _ _ _ ih => rw [List.length_cons, List.length_cons, ih]
theorem keeps_ok : ∀ {vs : List V} {rs : List RV} {ds : List D} {env env' : Env} {F : Hp} {fp : Nat → Addr → Prop} {A : Addr → Prop}, Stt F H σ env fp pv → Rvs F H σ A vs rs → Nof F H A → Apart A (cov fp) → keeps rs env = some (ds, env') →
    ∃ F' fp', Stt F' H σ env' fp' pv ∧ Step (or2 (cov fp) A) F H (cov fp') F' H ∧ AtL F' vs ds
  | _, _, _, env, _, F, fp, A, S, .nil, no, ap, e => by
    cases e
    exact ⟨F, fp, S, Step.refl.weak (fun b q => .inl q) fun b q => .inl q, .nil⟩
  | _, _, _, env, _, F, fp, A, S, .cons (B := B) (C := C) (v := v) (vs := vs) (r := r) (rs := rs) hB hC ab q t, no, ap, e => by
    unfold keeps at e
    cases e1 : keep env r with
    | none => simp [e1] at e
    | some p =>
      obtain ⟨d, env1⟩ := p
      simp only [e1, Option.bind_some] at e
      cases e2 : keeps rs env1 with
      | none => simp [e2] at e
      | some p2 =>
        obtain ⟨ds', env2⟩ := p2
        simp only [e2, Option.map_some, Option.some.injEq, Prod.mk.injEq] at e
        obtain ⟨rfl, rfl⟩ := e
        obtain ⟨F1, fp1, S1, st1, h1⟩ := keep_ok S q (no.le hB) (ap.le hB) e1
        have apC : Apart C (or2 (cov fp) B) := fun b x y => by
          rcases y with y | y
          · exact ap b (hC b x) y
          · exact ab b y x
        have noC := (no.le hC).step st1 apC
        obtain ⟨F2, fp2, S2, st2, h2⟩ := keeps_ok S1 (t.step st1 (no.le hC) apC) noC (Apart.step (no.le hC) st1 apC) e2
        refine ⟨F2, fp2, S2, ?_, .cons (At.mono st2.sub h1) h2⟩
        have st1' : Step (or2 (cov fp) A) F H (or2 (cov fp1) C) F1 H := st1.weak (fun b x => by
          rcases x with x | x
          · exact .inl x
          · exact .inr (hB b x)) fun b x => by
          rcases x with x | x
          · exact .inl x
          · exact .inr (.inl (.inr (hC b x)))
        exact st1'.trans st2
/-- seen: the root read from the heap, the parts frozen; a new object of more levels is frozen for it -/
theorem see_ok (S : Stt F H σ env fp pv) (h : RvOk F H σ A v r) (e : see env r = some d) : Pk F H v d := by
  cases r with
  | fz d' => cases e; exact Pk.of_at S.sub h
  | ow n d' => exact Pk.of_own h e
  | vw i =>
    unfold see at e
    cases q : obj env i with
    | none => simp [q] at e
    | some p =>
      obtain ⟨n, d'⟩ := p
      simp only [q, Option.bind_some] at e
      obtain ⟨w, e1, ho⟩ := S.objn q
      have : σ[i]? = some (some v) := h
      rw [e1] at this; cases this
      exact Pk.of_own ho e
theorem look1_ok (S : Stt F H σ env fp pv) (h : RvOk F H σ A v r) (no : Nof F H A) (ap : Apart A (cov fp)) (e : look1 env r = some d) :
    ∃ F', Stt F' H σ env fp pv ∧ Step (or2 (cov fp) A) F H (cov fp) F' H ∧ Step A F H (fun _ => False) F' H ∧ Pk F' H v d := by
  have z : Step A F H (fun _ => False) F H := ⟨Sub.refl F, fun _ _ q => .inl q, fun _ _ q _ => q, fun _ q => q.elim, fun _ q => q⟩
  cases r with
  | fz d' => exact ⟨F, S, Step.refl.weak (fun b q => .inl q) (fun b q => .inl q), z, see_ok S h e⟩
  | vw i => exact ⟨F, S, Step.refl.weak (fun b q => .inl q) (fun b q => .inl q), z, see_ok S h e⟩
  | ow n d' =>
    cases e
    have st := frzn_alone (F := F) (H := H) no
    exact ⟨_, S.prim st (frzn_le S.sub) ap.symm, frzn_step no, st, Pk.of_at (frzn_le S.sub) (Own.frzn S.sub no h)⟩
inductive Pks (F H : Hp) : List V → List D → Prop
  | nil : Pks F H [] []
  | cons {v : V} {vs : List V} {d : D} {ds : List D} : Pk F H v d → Pks F H vs ds → Pks F H (v :: vs) (d :: ds)
theorem Pk.mono (s : Sub F F') (h : Pk F H v d) : Pk F' H v d := by
  cases d with
  | lst ds => obtain ⟨a, vs, e, hh, k⟩ := h; exact ⟨a, vs, e, hh, k.mono s⟩
  | tup ds => obtain ⟨a, vs, e, hh, k⟩ := h; exact ⟨a, vs, e, s _ _ hh, k.mono s⟩
  | dk ks ds => obtain ⟨a, vs, e, hh, e2, k⟩ := h; exact ⟨a, vs, e, hh, e2, k.mono s⟩
  | dt ks ds => obtain ⟨a, vs, e, hh, e2, k⟩ := h; exact ⟨a, vs, e, hh, e2, k.mono s⟩
  | non => exact h
  | bl b => exact h
  | int b => exact h
  | str b => exact h
theorem looks_ok : ∀ {vs : List V} {rs : List RV} {ds : List D} {F : Hp} {A : Addr → Prop}, Stt F H σ env fp pv → Rvs F H σ A vs rs → Nof F H A → Apart A (cov fp) → looks env rs = some ds →
    ∃ F', Stt F' H σ env fp pv ∧ Step (or2 (cov fp) A) F H (cov fp) F' H ∧ Pks F' H vs ds
  | _, _, _, F, A, S, .nil, no, ap, e => by
    cases e
    exact ⟨F, S, Step.refl.weak (fun b q => .inl q) fun b q => .inl q, .nil⟩
  | _, _, _, F, A, S, .cons (B := B) (C := C) (v := v) (vs := vs) (r := r) (rs := rs) hB hC ab q t, no, ap, e => by
    unfold looks at e
    cases e1 : look1 env r with
    | none => simp [e1] at e
    | some d =>
      simp only [e1, Option.bind_some] at e
      cases e2 : looks env rs with
      | none => simp [e2] at e
      | some ds' =>
        simp only [e2, Option.map_some, Option.some.injEq] at e
        subst e
        obtain ⟨F1, S1, st1, st1', h1⟩ := look1_ok S q (no.le hB) (ap.le hB) e1
        have apC : Apart C B := ab.symm
        have noC := (no.le hC).step st1' apC
        obtain ⟨F2, S2, st2, h2⟩ := looks_ok S1 (t.step st1' (no.le hC) apC) noC (ap.le hC) e2
        refine ⟨F2, S2, ?_, .cons (h1.mono st2.sub) h2⟩
        have st3 : Step (or2 (cov fp) A) F H (or2 (cov fp) C) F1 H := st1.weak (fun b x => by
          rcases x with x | x
          · exact .inl x
          · exact .inr (hB b x)) fun b x => by
          rcases x with x | x
          · exact .inl x
          · exact .inr (.inl (.inr (hC b x)))
        exact st3.trans st2
end
end Mi
end
section
set_option Elab.async false
set_option linter.all false
set_option maxRecDepth 100000
namespace Mi
open PySem L2
abbrev none1 : Addr → Prop := fun _ => False
/-! ### what must hold behind an evaluation -/
section
variable (ER : Exn → Value → Option Addr → Hp → Hp → Prop) (E0 : XK) (σ : L2.St) (pv : Nat → Option V)
def Post {α β : Type} (o : Rs α) (R : Hp → Hp → (Addr → Prop) → β → α → Prop) (M : Addr → Prop) (F H : Hp) (Q : β → Hp → Prop) : Prop := match o with
  | .no => False
  | .ex x => ∀ cls d F' H', Step M F H none1 F' H' → Sub F' H' → ER x cls d F' H' → E0 cls d H'
  | .ok a env' => ∀ b F' H' fp' A, Stt F' H' σ env' fp' pv → Step M F H (or2 (cov fp') A) F' H' → R F' H' A b a → Nof F' H' A → Apart A (cov fp') → Q b H'
end
section
variable {ER : Exn → Value → Option Addr → Hp → Hp → Prop} {E0 : XK} {σ : L2.St} {pv : Nat → Option V} {α β γ δ : Type} {F F' H H' : Hp} {M M' M0 A : Addr → Prop}
theorem Post.step {o : Rs α} {R : Hp → Hp → (Addr → Prop) → β → α → Prop} {Q : β → Hp → Prop} (P : Post ER E0 σ pv o R M F H Q) (st : Step M F H M' F' H') : Post ER E0 σ pv o R M' F' H' Q := by
  cases o with
  | no => exact P
  | ex x => exact fun cls d G J s2 h e => P cls d G J (st.trans s2) h e
  | ok a env => exact fun b G J fp B S s2 r n ap => P b G J fp B S (st.trans s2) r n ap
theorem Post.less {o : Rs α} {R : Hp → Hp → (Addr → Prop) → β → α → Prop} {Q : β → Hp → Prop} (P : Post ER E0 σ pv o R M F H Q) (h : ∀ b, M' b → M b) : Post ER E0 σ pv o R M' F H Q := by
  cases o with
  | no => exact P
  | ex x => exact fun cls d G J s2 q e => P cls d G J (s2.weak h fun _ z => z.elim) q e
  | ok a env => exact fun b G J fp B S s2 r n ap => P b G J fp B S (s2.weak h fun _ z => .inl z) r n ap
theorem or2_none {M : Addr → Prop} {b : Addr} : or2 M none1 b ↔ M b := ⟨fun q => q.elim id False.elim, .inl⟩
/-- an evaluation, then what goes on: A, what is held meanwhile -/
theorem Post.sp {o : Rs α} {k : α → Env → Rs γ} {R : Hp → Hp → (Addr → Prop) → δ → γ → Prop} {R1 : Hp → Hp → (Addr → Prop) → β → α → Prop} {Q : δ → Hp → Prop} {Q1 : β → Hp → Prop} (P : Post ER E0 σ pv (o.bind k) R M F H Q)
    (hM : ∀ b, M0 b → M b) (hA : ∀ b, A b → M b) (no : Nof F H A) (ap : Apart A M0)
    (h : ∀ a env' b F' H' fp' B, Stt F' H' σ env' fp' pv → Step M0 F H (or2 (cov fp') B) F' H' → R1 F' H' B b a → Nof F' H' B → Apart B (cov fp') → Nof F' H' A → Apart A (or2 (cov fp') B) →
      Post ER E0 σ pv (k a env') R (or2 (or2 (cov fp') B) A) F' H' Q → Q1 b H') : Post ER E0 σ pv o R1 M0 F H Q1 := by
  cases o with
  | no => exact P
  | ex x => exact fun cls d G J s2 q e => P cls d G J (s2.weak hM fun _ z => z.elim) q e
  | ok a env =>
    intro b G J fp B S s2 r n ap2
    refine h a env b G J fp B S s2 r n ap2 (no.step s2 ap) (Apart.step no s2 ap) ?_
    exact Post.step P (s2.weak hM fun b z => by
      rcases z with z | z
      · exact .inl z
      · exact .inr (.inl (hA b z)))
theorem Post.sp0 {o : Rs α} {k : α → Env → Rs γ} {R : Hp → Hp → (Addr → Prop) → δ → γ → Prop} {R1 : Hp → Hp → (Addr → Prop) → β → α → Prop} {Q : δ → Hp → Prop} {Q1 : β → Hp → Prop} (P : Post ER E0 σ pv (o.bind k) R M F H Q)
    (h : ∀ a env' b F' H' fp' B, Stt F' H' σ env' fp' pv → Step M F H (or2 (cov fp') B) F' H' → R1 F' H' B b a → Nof F' H' B → Apart B (cov fp') →
      Post ER E0 σ pv (k a env') R (or2 (cov fp') B) F' H' Q → Q1 b H') : Post ER E0 σ pv o R1 M F H Q1 :=
  P.sp (M0 := M) (A := none1) (fun _ q => q) (fun _ q => q.elim) (fun _ q => q.elim) (fun _ q => q.elim) fun a env' b F' H' fp' B S st r n ap _ _ P' => h a env' b F' H' fp' B S st r n ap (P'.less fun b q => .inl q)
end
/-! ### a new value, or one that stands -/
structure Prim (F H : Hp) (A : Addr → Prop) (F' H' : Hp) (v : V) (r : RV) : Prop where
  st : Step none1 F H A F' H'
  sub : Sub F' H'
  ok : ∀ σ, RvOk F' H' σ A v r
  no : Nof F' H' A
section
variable {ER : Exn → Value → Option Addr → Hp → Hp → Prop} {E0 : XK} {σ : L2.St} {pv : Nat → Option V} {α β γ δ : Type} {F F' H H' : Hp} {M M' M0 A : Addr → Prop} {v : V} {d : D} {r : RV}
theorem step_same {M : Addr → Prop} : Step none1 F H none1 F H := ⟨Sub.refl F, fun _ _ q => .inl q, fun _ _ q _ => q, fun _ q => q.elim, fun _ q => q⟩
theorem Prim.at (s : Sub F H) (h : At F v d) : Prim F H none1 F H v (.fz d) := ⟨step_same (M := none1), s, fun _ => h, fun _ q => q.elim⟩
theorem step_new {p : Addr} {o : HO} (hp : H p = none) (s : Sub F H) : Step none1 F H (fun b => b = p) F (upd H p o) where
  sub := Sub.refl F
  new := fun _ _ q => .inl q
  keep := fun b u q _ => by rw [upd_ne (ne_of_none q hp)]; exact q
  foot := fun b q => .inr (by rw [q]; exact hp)
  there := fun b q => by
    by_cases e : b = p
    · rw [e]; exact hp
    · rw [upd_ne e] at q; exact q
theorem step_data {p : Addr} {o : HO} (hp : H p = none) (s : Sub F H) : Step none1 F H none1 (upd F p o) (upd H p o) where
  sub := Sub.put1 (s.no hp)
  new := fun b u q => by
    by_cases e : b = p
    · rw [e]; exact .inr (.inl hp)
    · rw [upd_ne e] at q; exact .inl q
  keep := fun b u q _ => by rw [upd_ne (ne_of_none q hp)]; exact q
  foot := fun b q => q.elim
  there := fun b q => by
    by_cases e : b = p
    · rw [e]; exact hp
    · rw [upd_ne e] at q; exact q
theorem nof_new {p : Addr} {o : HO} (hp : H p = none) (s : Sub F H) : Nof F (upd H p o) (fun b => b = p) := fun b q => by
  rw [q]; exact ⟨s.no hp, o, upd_same⟩
theorem Prim.lst {p : Addr} {vs : List V} {ds : List D} (hp : H p = none) (s : Sub F H) (h : AtL F vs ds) : Prim F H (fun b => b = p) F (upd H p (.lst vs)) (.ref p) (.ow 1 (.lst ds)) :=
  ⟨step_new hp s, s.putR (s.no hp), fun _ => ⟨p, vs, rfl, rfl, upd_same, kids1.2 h⟩, nof_new hp s⟩
theorem Prim.tup {p : Addr} {vs : List V} {ds : List D} (hp : H p = none) (s : Sub F H) (h : AtL F vs ds) : Prim F H none1 (upd F p (.tup vs)) (upd H p (.tup vs)) (.ref p) (.fz (.tup ds)) :=
  ⟨step_data hp s, s.put2, fun _ => .tup upd_same (h.mono (Sub.put1 (s.no hp))), fun _ q => q.elim⟩
theorem Prim.dk {p : Addr} {kvs : List (Key × V)} {ds : List D} (hp : H p = none) (s : Sub F H) (h : AtL F (kvs.map (·.2)) ds) : Prim F H (fun b => b = p) F (upd H p (.dK kvs)) (.ref p) (.ow 1 (.dk (kvs.map (·.1)) ds)) :=
  ⟨step_new hp s, s.putR (s.no hp), fun _ => ⟨p, kvs, rfl, rfl, upd_same, rfl, kids1.2 h⟩, nof_new hp s⟩
theorem Prim.dt {p : Addr} {kvs : List (List Key × V)} {ds : List D} (hp : H p = none) (s : Sub F H) (h : AtL F (kvs.map (·.2)) ds) : Prim F H (fun b => b = p) F (upd H p (.dT kvs)) (.ref p) (.ow 1 (.dt (kvs.map (·.1)) ds)) :=
  ⟨step_new hp s, s.putR (s.no hp), fun _ => ⟨p, kvs, rfl, rfl, upd_same, rfl, kids1.2 h⟩, nof_new hp s⟩
theorem Prim.flat (s : Sub F H) (f : d.flat = true) : Prim F H none1 F H d.toV (.fz d) := Prim.at s (At.of_flat f)
/-- the end of an evaluation by a primitive step -/
theorem Post.prim {env : Env} {fp : Nat → Addr → Prop} {Q : VK} (P : Post ER E0 σ pv (.ok r env) (fun F' H' A v r => RvOk F' H' σ A v r) M F H Q) (S : Stt F H σ env fp pv) (hM : ∀ b, cov fp b → M b) (p : Prim F H A F' H' v r) : Q v H' := by
  have ap : Apart (cov fp) none1 := fun _ _ q => q
  refine P v F' H' fp A (S.prim p.st p.sub ap) (p.st.weak (fun _ q => q.elim) fun b q => ?_) (p.ok σ) p.no fun b x y => ?_
  · rcases q with q | q
    · exact .inr (.inl (hM b q))
    · exact .inl q
  · rcases p.st.foot b x with z | z
    · exact z
    · obtain ⟨_, u, e⟩ := S.nof b y
      rw [e] at z; cases z
end
/-! ### operators -/
section
variable {X : Cx} {F H : Hp} {x y : V} {d d' z : D}
theorem inv_lst {pins : List (Addr × Obj)} {σ : L2.St} {s : Shared} {l : Addr} {xs : List V} (I : Inv X pins σ H s) (h : Rd H l (.lst xs)) : xs.length ≤ sizeLine ∧ ∃ (its : List Value) (n : Nat), Vals xs its ∧ xs.length = its.length ∧ s.heap.get? l = some { cls := .type "list", data := .seq its.toArray n } := by
  obtain ⟨z, its, n, r, e⟩ := Rd.ok h I.hok
  exact ⟨z, its, n, r, r.length, e⟩
def rCatR : R2 := fun x y H Q => ∃ l b xs zs, x = .ref l ∧ y = .ref b ∧ Rd H l (.lst xs) ∧ Rd H b (.lst zs) ∧ xs.length + zs.length ≤ sizeLine ∧ ∀ p, H p = none → Q (.ref p) (upd H p (.lst (xs ++ zs)))
theorem op_catR : OpR X (binaryOp .Add) rCatR := by
  intro pins s σ H x y v u Q I rx ry h
  obtain ⟨l, b, xs, zs, rfl, rfl, hH, hB, hz, q⟩ := h
  cases rx
  cases ry
  obtain ⟨z, its, n, r, hl, e⟩ := inv_lst I hH
  obtain ⟨z2, its2, n2, r2, hl2, e2⟩ := inv_lst I hB
  refine PySem.P.add_list e e2 ?_ (by rw [List.size_toArray, List.size_toArray]; omega)
  have ea : its.toArray ++ its2.toArray = (its ++ its2).toArray := by simp
  rw [ea]
  exact ⟨.ref _, _, I.lnew (t' := s.toks) (r.append r2) (by rw [List.length_append]; omega), rfl, q _ I.fresh⟩
def rMulS : R2 := fun x y H Q => ∃ z j, x = .str z ∧ y = .int j ∧ (z.length * j.toNat ≤ 1000 ∧ j < 1000 ∧ -1000 < j) ∧ Q (.str (strMul z j)) H
theorem foldl_app : ∀ (k : Nat) (x : Array Nat) (acc : Array Nat), (List.replicate k x).foldl (· ++ ·) acc = (acc.toList ++ (List.replicate k x.toList).flatten).toArray
  | 0, x, acc => by simp
  | k + 1, x, acc => by
    rw [List.replicate_succ, List.foldl_cons, foldl_app k x (acc ++ x), List.replicate_succ, List.flatten_cons]
    simp
theorem op_mulS : OpR X (binaryOp .Mult) rMulS := by
  intro pins s σ H x y v u Q I rx ry h
  obtain ⟨z, j, rfl, rfl, ⟨h1, h2, h3⟩, q⟩ := h
  obtain ⟨t, rfl⟩ := rx
  obtain ⟨t', rfl⟩ := ry
  have hlong : Builtin.Str.tooLong (z.length * j.toNat) = false := by
    have : (1000 : Nat) < sizeLine := by decide
    unfold Builtin.Str.tooLong
    simp only [decide_eq_false_iff_not]
    omega
  refine PySem.P.mul_str ?_ ?_ ?_ ?_
  · have a : ¬ j < -(2 ^ 63 : Int) := by omega
    have b : ¬ j ≥ 2 ^ 63 := by omega
    rw [decide_eq_false a, decide_eq_false b]; rfl
  · intro a b c
    have hj : 1 ≤ j := by omega
    have h4 : (2 ^ 63 - 1 : Int) / j ≥ (2 ^ 63 - 1) / 1000 := by
      refine (Int.le_ediv_iff_mul_le (by omega)).2 ?_
      have : ((2 ^ 63 - 1) / 1000 : Int) * j ≤ ((2 ^ 63 - 1) / 1000 : Int) * 1000 := Int.mul_le_mul_of_nonneg_left (by omega) (by decide)
      omega
    have h5 : z.length ≤ 1000 := by
      have : 1 ≤ j.toNat := by omega
      calc z.length = z.length * 1 := (Nat.mul_one _).symm
        _ ≤ z.length * j.toNat := Nat.mul_le_mul_left _ this
        _ ≤ 1000 := h1
    omega
  · intro _ _; exact hlong
  · by_cases c1 : j < 1
    · rw [if_pos c1]
      have e : strMul z j = Str.empty := by
        have : j.toNat = 0 := by omega
        unfold strMul; rw [this]; rfl
      exact ⟨by decide, ⟨.str Str.empty, H, (I.tok (s.toks + 1)), ⟨_, rfl⟩, by rw [← e]; exact q⟩⟩
    · rw [if_neg c1]
      by_cases c2 : (j == 1 || z.length == 0) = true
      · rw [if_pos c2]
        have e : strMul z j = z := by
          unfold strMul
          rw [Bool.or_eq_true, beq_iff_eq, beq_iff_eq] at c2
          rcases c2 with c2 | c2
          · subst c2; simp
          · have : z.cps.toList = [] := List.eq_nil_of_length_eq_zero (by simpa [Str.length] using c2)
            have z0 : z = ⟨#[]⟩ := by
              cases z with
              | mk a => congr 1; exact Array.toList_inj.1 (by simpa using this)
            rw [z0]; simp
        exact ⟨.str z, H, I, ⟨_, rfl⟩, by rw [← e]; exact q⟩
      · rw [if_neg c2]
        have e : (⟨(List.replicate j.toNat z.cps).foldl (· ++ ·) #[]⟩ : Str) = strMul z j := by
          rw [foldl_app]; simp [strMul]
        rw [e]
        refine ⟨?_, ⟨.str (strMul z j), H, (I.tok (s.toks + 1)), ⟨_, rfl⟩, q⟩⟩
        have l : (strMul z j).cps.size = z.length * j.toNat := by
          simp [strMul, Str.length, Nat.mul_comm]
        have : (1000 : Nat) < sizeLine := by decide
        show (strMul z j).cps.size ≤ sizeLine
        rw [l]; omega
end
end Mi
end
section
set_option Elab.async false
set_option linter.all false
set_option maxRecDepth 100000
namespace Mi
open PySem L2
section
variable {X : Cx} {d d' z : D} {F H : Hp}
theorem AtL.nil_iff {vs : List V} {ds : List D} (h : AtL F vs ds) : vs = [] ↔ ds = [] := by cases h <;> simp
theorem bop_ok {o : Bop} (h : bop o d d' = some z) : ∃ r : R2, OpR X (binaryOp (bopOf o)) r ∧ ∀ (F H : Hp) (x y : V) (Q : VK), Sub F H → Pk F H x d → Pk F H y d' → (∀ v F' H' A, Prim F H A F' H' v z.rv → Q v H') → r x y H Q := by
  unfold bop at h
  split at h
  · cases h; exact ⟨_, op_add, fun F H x y Q s hx hy q => ⟨_, _, hx, hy, q (.int _) _ _ _ (Prim.at s (.int _))⟩⟩
  · split at h
    · rename_i c; cases h
      exact ⟨_, op_add_str, fun F H x y Q s hx hy q => ⟨_, _, hx, hy, c, q (.str _) _ _ _ (Prim.at s (.str _))⟩⟩
    · cases h
  · split at h
    · rename_i a b c; cases h
      refine ⟨_, op_catR, fun F H x y Q s ⟨p, vs, e1, h1, t1⟩ ⟨p', vs', e2, h2, t2⟩ q => ⟨p, p', vs, vs', e1, e2, h1, h2, ?_, fun l hl => q _ _ _ _ (Prim.lst hl s (t1.append t2))⟩⟩
      rw [t1.length, t2.length]; exact c
    · cases h
  · split at h
    · rename_i a b c; cases h
      refine ⟨_, op_catA, fun F H x y Q s ⟨p, vs, e1, h1, t1⟩ ⟨p', vs', e2, h2, t2⟩ q => ⟨p, p', vs, vs', e1, e2, SqT.of (s _ _ h1), SqT.of (s _ _ h2), ?_, fun e => ?_, fun _ e => ?_, fun _ _ l hl => q _ _ _ _ (Prim.tup hl s (t1.append t2))⟩⟩
      · rw [t1.length, t2.length]; exact c
      · have := t1.nil_iff.1 e; subst this
        exact q _ F H none1 (Prim.at s (.tup h2 t2))
      · have := t2.nil_iff.1 e; subst this
        rw [List.append_nil] at q
        exact q _ F H none1 (Prim.at s (.tup h1 t1))
    · cases h
  · cases h; exact ⟨_, op_sub, fun F H x y Q s hx hy q => ⟨_, _, hx, hy, q (.int _) _ _ _ (Prim.at s (.int _))⟩⟩
  · split at h
    · rename_i c; cases h
      exact ⟨_, op_mul, fun F H x y Q s hx hy q => ⟨_, _, hx, hy, c, q (.int _) _ _ _ (Prim.at s (.int _))⟩⟩
    · cases h
  · split at h
    · rename_i c; cases h
      exact ⟨_, op_mulS, fun F H x y Q s hx hy q => ⟨_, _, hx, hy, c, q (.str _) _ _ _ (Prim.at s (.str _))⟩⟩
    · cases h
  · split at h
    · rename_i c; cases h
      exact ⟨_, op_fdiv, fun F H x y Q s hx hy q => ⟨_, _, hx, hy, c, q (.int _) _ _ _ (Prim.at s (.int _))⟩⟩
    · cases h
  · split at h
    · rename_i c; cases h
      exact ⟨_, op_mod, fun F H x y Q s hx hy q => ⟨_, _, hx, hy, c, q (.int _) _ _ _ (Prim.at s (.int _))⟩⟩
    · cases h
  · split at h
    · rename_i c; cases h
      exact ⟨_, op_pow, fun F H x y Q s hx hy q => ⟨_, _, hx, hy, c, q (.int _) _ _ _ (Prim.at s (.int _))⟩⟩
    · cases h
  · cases h; exact ⟨_, op_and, fun F H x y Q s hx hy q => ⟨_, _, hx, hy, q (.int _) _ _ _ (Prim.at s (.int _))⟩⟩
  · cases h; exact ⟨_, op_or, fun F H x y Q s hx hy q => ⟨_, _, hx, hy, q (.int _) _ _ _ (Prim.at s (.int _))⟩⟩
  · split at h
    · rename_i c; cases h
      exact ⟨_, op_shl, fun F H x y Q s hx hy q => ⟨_, _, hx, hy, c, q (.int _) _ _ _ (Prim.at s (.int _))⟩⟩
    · cases h
  · split at h
    · rename_i c; cases h
      exact ⟨_, op_shr, fun F H x y Q s hx hy q => ⟨_, _, hx, hy, c, q (.int _) _ _ _ (Prim.at s (.int _))⟩⟩
    · cases h
  · cases h
/-! ### dicts -/
def OptAt (F : Hp) : Option V → Option D → Prop
  | none, none => True
  | some v, some d => At F v d
  | _, _ => False
theorem look_val {κ : Type} [DecidableEq κ] (k : κ) : ∀ {kvs : List (κ × V)} {ds : List D}, AtL F (kvs.map (·.2)) ds → OptAt F (valV kvs k) (look k (kvs.map (·.1)) ds)
  | [], [], _ => trivial
  | p :: kvs, d :: ds, h => by
    rw [List.map_cons] at h
    cases h with
    | cons h t =>
      by_cases e : p.1 = k
      · rw [valV_pos e, List.map_cons, look, if_pos e]; exact h
      · rw [valV_neg e, List.map_cons, look, if_neg e]; exact look_val k t
theorem look_some {κ : Type} [DecidableEq κ] {k : κ} {kvs : List (κ × V)} {ds : List D} (h : AtL F (kvs.map (·.2)) ds) {d : D} (e : look k (kvs.map (·.1)) ds = some d) : ∃ v, valV kvs k = some v ∧ At F v d := by
  have q := look_val k h
  rw [e] at q
  cases z : valV kvs k with
  | none => rw [z] at q; exact q.elim
  | some v => rw [z] at q; exact ⟨v, rfl, q⟩
theorem look_none {κ : Type} [DecidableEq κ] {k : κ} {kvs : List (κ × V)} {ds : List D} (h : AtL F (kvs.map (·.2)) ds) (e : look k (kvs.map (·.1)) ds = none) : valV kvs k = none := by
  have q := look_val k h
  rw [e] at q
  cases z : valV kvs k with
  | none => rfl
  | some v => rw [z] at q; exact q.elim
theorem look_isSome {κ : Type} [DecidableEq κ] {k : κ} {kvs : List (κ × V)} {ds : List D} (h : AtL F (kvs.map (·.2)) ds) : (valV kvs k).isSome = (look k (kvs.map (·.1)) ds).isSome := by
  cases e : look k (kvs.map (·.1)) ds with
  | none => rw [look_none h e]; rfl
  | some d => obtain ⟨v, e2, _⟩ := look_some h e; rw [e2]; rfl
theorem repl_at {κ : Type} [DecidableEq κ] {k : κ} {v : D} {w : V} (hw : At F w v) : ∀ {kvs : List (κ × V)} {ds : List D}, AtL F (kvs.map (·.2)) ds →
    (kvs.map fun kv => if kv.1 = k then (kv.1, w) else kv).map (·.1) = kvs.map (·.1) ∧ AtL F ((kvs.map fun kv => if kv.1 = k then (kv.1, w) else kv).map (·.2)) (repl k v (kvs.map (·.1)) ds)
  | [], [], _ => ⟨rfl, .nil⟩
  | p :: kvs, d :: ds, h => by
    rw [List.map_cons] at h
    cases h with
    | cons h t =>
      obtain ⟨h1, h2⟩ := repl_at (k := k) hw t
      rw [List.map_cons, List.map_cons, List.map_cons, List.map_cons, repl, h1]
      by_cases e : p.1 = k
      · simp only [if_pos e]; exact ⟨trivial, .cons hw h2⟩
      · simp only [if_neg e]; exact ⟨trivial, .cons h h2⟩
theorem put_at {κ : Type} [DecidableEq κ] {k : κ} {v : D} {w : V} (hw : At F w v) {kvs : List (κ × V)} {ds : List D} (h : AtL F (kvs.map (·.2)) ds) :
    (putK kvs k w).map (·.1) = (put k v (kvs.map (·.1)) ds).1 ∧ AtL F ((putK kvs k w).map (·.2)) (put k v (kvs.map (·.1)) ds).2 := by
  have a : ((kvs.map (·.1)).any fun a => decide (a = k)) = kvs.any fun kv => decide (kv.1 = k) := by rw [List.any_map]; rfl
  unfold putK put
  rw [a]
  by_cases c : (kvs.any fun kv => decide (kv.1 = k)) = true
  · rw [if_pos c, if_pos c]; exact repl_at hw h
  · rw [if_neg c, if_neg c]
    refine ⟨by rw [List.map_append]; rfl, ?_⟩
    rw [List.map_append]
    exact h.append (.cons hw .nil)
theorem key_of_at {v : V} {d : D} {k : Key} (h : At F v d) (e : d.key = some k) : v = kV k := by
  cases h <;> simp [D.key] at e <;> subst e <;> rfl
theorem keys_of_at : ∀ {vs : List V} {ds : List D} {ks : List Key}, AtL F vs ds → ds.mapM D.key = some ks → vs = ks.map kV
  | _, _, ks, .nil, e => by simp at e; subst e; rfl
  | _, _, ks, .cons (d := d) (ds := ds) h t, e => by
    rw [List.mapM_cons] at e
    cases e1 : d.key with
    | none => simp [e1] at e
    | some k =>
      cases e2 : ds.mapM D.key with
      | none => simp [e1, e2] at e
      | some r =>
        simp [e1, e2] at e
        subst e
        rw [List.map_cons, key_of_at h e1, keys_of_at t e2]
theorem dkeys_at {v : V} {d : D} {ks : List Key} (h : Pk F H v d) (e : d.keys = some ks) : ∃ b, v = .ref b ∧ F b = some (.tup (ks.map kV)) := by
  cases d <;> simp [D.keys] at e
  obtain ⟨a, vs, rfl, hF, t⟩ := h
  rw [keys_of_at t e] at hF
  exact ⟨a, rfl, hF⟩
theorem dkey_at {v : V} {d : D} {k : Key} (h : Pk F H v d) (e : d.key = some k) : v = kV k := by
  cases d <;> simp [D.key] at e <;> subst e <;> exact h
/-- a dict's read -/
theorem dget_ok {x y : V} {o : Option D} (s : Sub F H) (hx : Pk F H x d) (hy : Pk F H y d') (e : dget d d' = some o) : ∃ a r, x = .ref a ∧ DGet H a y r ∧ OptAt F r o := by
  unfold dget at e
  split at e
  · cases q : d'.key with
    | none => rw [q] at e; cases e
    | some k =>
      rw [q] at e; cases e
      obtain ⟨a, kvs, rfl, h1, rfl, t⟩ := hx
      have := dkey_at hy q
      subst this
      exact ⟨a, _, rfl, DGet.k h1, look_val k t⟩
  · cases q : d'.keys with
    | none => rw [q] at e; cases e
    | some k =>
      rw [q] at e; cases e
      obtain ⟨a, kvs, rfl, h1, rfl, t⟩ := hx
      obtain ⟨b, rfl, hb⟩ := dkeys_at hy q
      exact ⟨a, _, rfl, DGet.t h1 (s _ _ hb), look_val k t⟩
  · cases e
end
/-! ### comparisons -/
section
variable {X : Cx} {d d' z : D} {F H : Hp}
theorem op_din (hu : X.A.units + 1 < cLine) : OpR X (compareOp .In) (fun y x H Q => ∃ a o, x = .ref a ∧ DGet H a y o ∧ Q (.bl o.isSome) H) := by
  intro pins s σ H y x u v Q I ry rx h
  obtain ⟨a, o, rfl, g, q⟩ := h
  cases rx
  exact d_in hu I g ry fun s' I' => ⟨.bl o.isSome, H, I', rfl, q⟩
theorem op_dnotin (hu : X.A.units + 1 < cLine) : OpR X (compareOp .NotIn) (fun y x H Q => ∃ a o, x = .ref a ∧ DGet H a y o ∧ Q (.bl (!o.isSome)) H) := by
  intro pins s σ H y x u v Q I ry rx h
  obtain ⟨a, o, rfl, g, q⟩ := h
  cases rx
  exact d_notIn hu I g ry fun s' I' => ⟨.bl (!o.isSome), H, I', rfl, q⟩
theorem inV_eq {x : V} {d : D} : ∀ {vs : List V} {ds : List D}, vs = ds.map D.toV → x = d.toV → inV x vs = inD d ds := by
  intro vs ds e1 e2
  subst e1; subst e2
  unfold inV inD
  rw [List.any_map]
  rfl
theorem Pk.flat {v : V} (h : Pk F H v d) (f : d.flat = true) : v = d.toV := by
  cases d <;> first | exact h | cases f
theorem flatV_of {d : D} (f : d.flat = true) : flatV d.toV = true := by
  cases d <;> first | rfl | cases f
theorem din_ok {x : D} {c neg : Bool} (hr : X.A.units + 1 < cLine) (h : din x d = some c) : ∃ r : R2, OpR X (compareOp (if neg then .NotIn else .In)) r ∧
    ∀ (F H : Hp) (u y : V) (Q : VK), Sub F H → Pk F H u x → Pk F H y d → Q (.bl (if neg then !c else c)) H → r u y H Q := by
  have seq : ∀ {ds : List D}, (x.flat && ds.all D.flat) = true → c = inD x ds → (∀ (F H : Hp) (y : V), Sub F H → Pk F H y d → ∃ a vs, y = .ref a ∧ (SqL X.K H a vs ∨ SqT X.K H a vs) ∧ AtL F vs ds) → ∃ r : R2, OpR X (compareOp (if neg then .NotIn else .In)) r ∧
    ∀ (F H : Hp) (u y : V) (Q : VK), Sub F H → Pk F H u x → Pk F H y d → Q (.bl (if neg then !c else c)) H → r u y H Q := by
    intro ds f ec hy
    rw [Bool.and_eq_true] at f
    refine ⟨rIn X.K neg, ?_, fun F H u y Q s hu h q => ?_⟩
    · cases neg
      · exact op_in_seq
      · exact op_notIn_seq
    · obtain ⟨a, vs, rfl, h1, t⟩ := hy F H y s h
      obtain ⟨f1, f2⟩ := t.flatV f.2
      have e := hu.flat f.1
      refine ⟨a, vs, rfl, h1, by rw [e]; exact flatV_of f.1, f1, ?_⟩
      rw [inV_eq f2 e, ← ec]
      exact q
  have dic : ∀ {o : Option D}, dget d x = some o → c = o.isSome → ∃ r : R2, OpR X (compareOp (if neg then .NotIn else .In)) r ∧
    ∀ (F H : Hp) (u y : V) (Q : VK), Sub F H → Pk F H u x → Pk F H y d → Q (.bl (if neg then !c else c)) H → r u y H Q := by
    intro o e ec
    have fin : ∀ (F H : Hp) (u y : V), Sub F H → Pk F H u x → Pk F H y d → ∃ a r, y = .ref a ∧ DGet H a u r ∧ c = r.isSome := fun F H u y s hu hy => by
      obtain ⟨a, r, e1, g, m⟩ := dget_ok s hy hu e
      refine ⟨a, r, e1, g, ?_⟩
      rw [ec]
      cases r <;> cases o <;> first | rfl | exact m.elim
    cases neg
    · refine ⟨_, op_din hr, fun F H u y Q s hu hy q => ?_⟩
      obtain ⟨a, r, e1, g, e2⟩ := fin F H u y s hu hy
      rw [e2] at q
      exact ⟨a, r, e1, g, q⟩
    · refine ⟨_, op_dnotin hr, fun F H u y Q s hu hy q => ?_⟩
      obtain ⟨a, r, e1, g, e2⟩ := fin F H u y s hu hy
      rw [e2] at q
      exact ⟨a, r, e1, g, q⟩
  unfold din at h
  split at h
  · split at h
    · rename_i f; cases h
      exact seq f rfl fun F H y s ⟨a, vs, e, h1, t⟩ => ⟨a, vs, e, .inl (.inl h1), t⟩
    · cases h
  · split at h
    · rename_i f; cases h
      exact seq f rfl fun F H y s ⟨a, vs, e, h1, t⟩ => ⟨a, vs, e, .inr (SqT.of (s _ _ h1)), t⟩
    · cases h
  · rename_i ks ds
    cases q : x.key with
    | none => rw [q] at h; cases h
    | some k => rw [q] at h; cases h; exact dic (o := look k ks ds) (by simp [dget, q]) rfl
  · rename_i ks ds
    cases q : x.keys with
    | none => rw [q] at h; cases h
    | some k => rw [q] at h; cases h; exact dic (o := look k ks ds) (by simp [dget, q]) rfl
  · split at h
    · cases h
      cases neg
      · exact ⟨_, op_in_str, fun F H u y Q s hu hy q => ⟨_, _, hu, hy, q⟩⟩
      · exact ⟨_, op_notin_str, fun F H u y Q s hu hy q => ⟨_, _, hu, hy, q⟩⟩
    · cases h
  · cases h
theorem shaped_flat {d : D} {v : V} {K : Frag} (s : Sub F H) (h : Pk F H v d) (e : SeqAt.shaped d.toP = true) : Dp K H v d.toP := At.dp (h.at s) e
theorem deq_ok {c neg : Bool} (hr : X.A.units + 64 < cLine) (h : deq d d' = some c) : ∃ r : R2, OpR X (compareOp (if neg then .NotEq else .Eq)) r ∧
    ∀ (F H : Hp) (u y : V) (Q : VK), Sub F H → Pk F H u d → Pk F H y d' → Q (.bl (if neg then !c else c)) H → r u y H Q := by
  unfold deq at h
  split at h
  · rename_i f
    rw [Bool.and_eq_true, Bool.and_eq_true] at f
    cases h
    cases neg
    · exact ⟨_, op_eq, fun F H u y Q s hu hy q => by rw [hu.flat f.1.2, hy.flat f.2]; exact ⟨f.1.1, q⟩⟩
    · exact ⟨_, op_ne, fun F H u y Q s hu hy q => by rw [hu.flat f.1.2, hy.flat f.2]; exact ⟨f.1.1, q⟩⟩
  · split at h
    · rename_i f
      rw [Bool.and_eq_true] at f
      cases h
      cases neg
      · exact ⟨_, op_eqD hr, fun F H u y Q s hu hy q => ⟨_, _, shaped_flat s hu f.1, shaped_flat s hy f.2, f.1, f.2, q⟩⟩
      · exact ⟨_, op_neD hr, fun F H u y Q s hu hy q => ⟨_, _, shaped_flat s hu f.1, shaped_flat s hy f.2, f.1, f.2, q⟩⟩
    · cases h
theorem nonflat_ref {v : V} (s : Sub F H) (h : Pk F H v d) (f : d.flat = false) : ∃ a, v = .ref a := by
  cases d with
  | lst ds => obtain ⟨a, _, e, _⟩ := h; exact ⟨a, e⟩
  | tup ds => obtain ⟨a, _, e, _⟩ := h; exact ⟨a, e⟩
  | dk ks ds => obtain ⟨a, _, e, _⟩ := h; exact ⟨a, e⟩
  | dt ks ds => obtain ⟨a, _, e, _⟩ := h; exact ⟨a, e⟩
  | non => cases f
  | bl b => cases f
  | int b => cases f
  | str b => cases f
theorem isN_eq {v : V} (s : Sub F H) (h : Pk F H v d) : decide (v = .non) = (decide (d.toV = .non) && d.flat) := by
  by_cases f : d.flat = true
  · rw [h.flat f, f, Bool.and_true]
  · have f' : d.flat = false := by simpa using f
    obtain ⟨a, rfl⟩ := nonflat_ref s h f'
    rw [f', Bool.and_false]
    rfl
theorem cop_ok {o : Cop} {c : Bool} (hr : X.A.units + 64 < cLine) (h : cop o d d' = some c) : ∃ r : R2, OpR X (compareOp (copOf o)) r ∧
    ∀ (F H : Hp) (u y : V) (Q : VK), Sub F H → Pk F H u d → Pk F H y d' → Q (.bl c) H → r u y H Q := by
  unfold cop at h
  split at h
  · exact deq_ok (neg := false) hr h
  · cases e : deq d d' with
    | none => rw [e] at h; cases h
    | some b => rw [e] at h; cases h; exact deq_ok (neg := true) hr e
  · cases h; exact ⟨_, op_lt, fun F H u y Q s hu hy q => ⟨_, _, hu, hy, q⟩⟩
  · cases h; exact ⟨_, op_le, fun F H u y Q s hu hy q => ⟨_, _, hu, hy, q⟩⟩
  · cases h; exact ⟨_, op_gt, fun F H u y Q s hu hy q => ⟨_, _, hu, hy, q⟩⟩
  · cases h; exact ⟨_, op_ge, fun F H u y Q s hu hy q => ⟨_, _, hu, hy, q⟩⟩
  · exact din_ok (neg := false) (by omega) h
  · cases e : din d d' with
    | none => rw [e] at h; cases h
    | some b => rw [e] at h; cases h; exact din_ok (neg := true) (by omega) e
  · cases h; exact ⟨_, op_isN, fun F H u y Q s hu hy q => ⟨hy, by rw [isN_eq s hu]; exact q⟩⟩
  · cases h; exact ⟨_, op_notN, fun F H u y Q s hu hy q => ⟨hy, by rw [isN_eq s hu]; exact q⟩⟩
  · cases h; exact ⟨_, op_isBl, fun F H u y Q s hu hy q => ⟨_, _, hu, hy, q⟩⟩
  · cases h; exact ⟨_, op_notBl, fun F H u y Q s hu hy q => ⟨_, _, hu, hy, q⟩⟩
  · cases h
end
end Mi
end
section
set_option Elab.async false
set_option linter.all false
set_option maxRecDepth 100000
namespace Mi
open PySem L2
section
variable {X : Cx} {d d' z : D} {F H : Hp}
theorem bls_at : ∀ {vs : List V} {ds : List D} {bs : List Bool}, AtL F vs ds → D.bls ds = some bs → vs = bs.map V.bl
  | _, _, bs, .nil, e => by simp [D.bls] at e; subst e; rfl
  | _, _, bs, .cons (d := d) (ds := ds) h t, e => by
    cases d <;> simp [D.bls] at e
    obtain ⟨r, e1, rfl⟩ := e
    rw [List.map_cons, bls_at t e1]
    cases h; rfl
theorem ints_at : ∀ {vs : List V} {ds : List D} {bs : List Int}, AtL F vs ds → D.ints ds = some bs → vs = bs.map V.int
  | _, _, bs, .nil, e => by simp [D.ints] at e; subst e; rfl
  | _, _, bs, .cons (d := d) (ds := ds) h t, e => by
    cases d <;> simp [D.ints] at e
    obtain ⟨r, e1, rfl⟩ := e
    rw [List.map_cons, ints_at t e1]
    cases h; rfl
theorem pks1 {vs : List V} (h : Pks F H vs [d]) : ∃ v, vs = [v] ∧ Pk F H v d := by
  cases h with
  | cons h t => cases t; exact ⟨_, rfl, h⟩
theorem pks2 {vs : List V} (h : Pks F H vs [d, d']) : ∃ v w, vs = [v, w] ∧ Pk F H v d ∧ Pk F H w d' := by
  cases h with
  | cons h t => cases t with
    | cons h2 t => cases t; exact ⟨_, _, rfl, h, h2⟩
def IsCall (X : Cx) (n : Str) (r : List V → Hp → VK → Prop) : Prop := (∃ id, bootBuiltins n = some (.builtin id) ∧ CallR X (.builtin id) r) ∨ ∃ T, bootBuiltins n = some (.type T) ∧ CallR X (.type T) r
theorem bltin_ok {f : Blt} {ds : List D} (hc : X.calm = true) (hf : f ≠ .listrev) (h : bltin f ds = some z) : ∃ r, IsCall X (bltName f) r ∧
    ∀ (F H : Hp) (vs : List V) (Q : VK), Sub F H → Pks F H vs ds → (∀ v F' H' A, Prim F H A F' H' v z.rv → Q v H') → r vs H Q := by
  unfold bltin at h
  split at h
  · split at h
    · rename_i c; cases h
      exact ⟨_, .inl ⟨_, PySem.boot_len, call_len_str⟩, fun F H vs Q s p q => by
        obtain ⟨v, rfl, h1⟩ := pks1 p
        exact ⟨_, by rw [show v = _ from h1]; rfl, c, q (.int _) _ _ _ (Prim.at s (.int _))⟩⟩
    · cases h
  · cases h
    exact ⟨_, .inl ⟨_, PySem.boot_len, call_len_seq⟩, fun F H vs Q s p q => by
      obtain ⟨v, rfl, a, ws, rfl, h1, t⟩ := pks1 p
      refine ⟨a, ws, rfl, .inl (.inl h1), ?_⟩
      rw [t.length]
      exact q (.int _) _ _ _ (Prim.at s (.int _))⟩
  · cases h
    exact ⟨_, .inl ⟨_, PySem.boot_len, call_len_seq⟩, fun F H vs Q s p q => by
      obtain ⟨v, rfl, a, ws, rfl, h1, t⟩ := pks1 p
      refine ⟨a, ws, rfl, .inr (SqT.of (s _ _ h1)), ?_⟩
      rw [t.length]
      exact q (.int _) _ _ _ (Prim.at s (.int _))⟩
  · cases h
    exact ⟨_, .inl ⟨_, PySem.boot_len, call_lenD⟩, fun F H vs Q s p q => by
      obtain ⟨v, rfl, a, kvs, rfl, h1, rfl, t⟩ := pks1 p
      refine ⟨a, kvs, rfl, h1, ?_⟩
      rw [List.length_map] at q
      exact q (.int _) _ _ _ (Prim.at s (.int _))⟩
  · cases h
    exact ⟨_, .inr ⟨_, by decide +kernel, call_int1⟩, fun F H vs Q s p q => by
      obtain ⟨v, rfl, h1⟩ := pks1 p
      exact .inl ⟨_, by rw [show v = _ from h1]; rfl, q (.int _) _ _ _ (Prim.at s (.int _))⟩⟩
  · rename_i b; cases h
    exact ⟨_, .inr ⟨_, by decide +kernel, call_int1⟩, fun F H vs Q s p q => by
      obtain ⟨v, rfl, h1⟩ := pks1 p
      exact .inr ⟨_, by rw [show v = _ from h1]; rfl, q (.int _) _ _ _ (Prim.at s (.int _))⟩⟩
  · cases h
    exact ⟨_, .inl ⟨_, by decide +kernel, call_abs⟩, fun F H vs Q s p q => by
      obtain ⟨v, rfl, h1⟩ := pks1 p
      exact ⟨_, by rw [show v = _ from h1]; rfl, q (.int _) _ _ _ (Prim.at s (.int _))⟩⟩
  · rename_i ds'
    cases e : D.bls ds' with
    | none => rw [e] at h; cases h
    | some bs =>
      rw [e] at h; cases h
      exact ⟨_, .inl ⟨_, by decide +kernel, cr_all hc⟩, fun F H vs Q s p q => by
        obtain ⟨v, rfl, a, ws, rfl, h1, t⟩ := pks1 p
        have := bls_at t e
        subst this
        exact ⟨a, bs, rfl, .inl h1, q (.bl _) _ _ _ (Prim.at s (.bl _))⟩⟩
  · rename_i ds'
    cases e : D.bls ds' with
    | none => rw [e] at h; cases h
    | some bs =>
      rw [e] at h; cases h
      exact ⟨_, .inl ⟨_, by decide +kernel, cr_any hc⟩, fun F H vs Q s p q => by
        obtain ⟨v, rfl, a, ws, rfl, h1, t⟩ := pks1 p
        have := bls_at t e
        subst this
        exact ⟨a, bs, rfl, .inl h1, q (.bl _) _ _ _ (Prim.at s (.bl _))⟩⟩
  · rename_i ds'
    cases e : D.ints ds' with
    | none => rw [e] at h; cases h
    | some bs =>
      rw [e] at h; cases h
      exact ⟨_, .inl ⟨_, by decide +kernel, cr_sum hc⟩, fun F H vs Q s p q => by
        obtain ⟨v, rfl, a, ws, rfl, h1, t⟩ := pks1 p
        have := ints_at t e
        subst this
        exact ⟨a, bs, rfl, .inl h1, q (.int _) _ _ _ (Prim.at s (.int _))⟩⟩
  · cases h
    exact ⟨_, .inr ⟨_, by decide +kernel, call_tuple_of⟩, fun F H vs Q s p q => by
      obtain ⟨v, rfl, a, ws, rfl, h1, t⟩ := pks1 p
      exact ⟨a, ws, rfl, .inl ⟨.inl h1, fun l hl => q _ _ _ _ (Prim.tup hl s t)⟩⟩⟩
  · cases h
    exact ⟨_, .inr ⟨_, by decide +kernel, call_tuple_of⟩, fun F H vs Q s p q => by
      obtain ⟨v, rfl, a, ws, rfl, h1, t⟩ := pks1 p
      exact ⟨a, ws, rfl, .inr ⟨SqT.of (s _ _ h1), q _ _ _ _ (Prim.at s (.tup h1 t))⟩⟩⟩
  · cases h
    exact ⟨_, .inr ⟨_, by decide +kernel, call_list_of⟩, fun F H vs Q s p q => by
      obtain ⟨v, rfl, a, ws, rfl, h1, t⟩ := pks1 p
      exact ⟨a, ws, rfl, .inl (.inl h1), fun l hl => q _ _ _ _ (Prim.lst hl s t)⟩⟩
  · cases h
    exact ⟨_, .inr ⟨_, by decide +kernel, call_list_of⟩, fun F H vs Q s p q => by
      obtain ⟨v, rfl, a, ws, rfl, h1, t⟩ := pks1 p
      exact ⟨a, ws, rfl, .inr (SqT.of (s _ _ h1)), fun l hl => q _ _ _ _ (Prim.lst hl s t)⟩⟩
  · exact (hf rfl).elim
  · cases h
    exact ⟨_, .inl ⟨_, by decide +kernel, call_max2 hc⟩, fun F H vs Q s p q => by
      obtain ⟨v, w, rfl, h1, h2⟩ := pks2 p
      exact ⟨_, _, by rw [show v = _ from h1, show w = _ from h2]; rfl, q (.int _) _ _ _ (Prim.at s (.int _))⟩⟩
  · cases h
    exact ⟨_, .inl ⟨_, by decide +kernel, call_min2 hc⟩, fun F H vs Q s p q => by
      obtain ⟨v, w, rfl, h1, h2⟩ := pks2 p
      exact ⟨_, _, by rw [show v = _ from h1, show w = _ from h2]; rfl, q (.int _) _ _ _ (Prim.at s (.int _))⟩⟩
  · cases h
theorem ixN_len {n m : Nat} {i : Int} (e : n = m) : ixN n i = ixN m i := by rw [e]
theorem atI_at {vs : List V} {ds : List D} {i : Int} (t : AtL F vs ds) (h : atI ds i = some z) : ∃ v, atI vs i = some v ∧ At F v z := by
  unfold atI at h ⊢
  rw [t.length]
  cases e : ixN ds.length i with
  | none => rw [e] at h; cases h
  | some j =>
    rw [e] at h
    simp only [Option.bind_some] at h ⊢
    exact t.get h
/-- an item of a list, a tuple, a text -/
theorem didx_ok {d k z : D} (h : didx d k = some z) : (∃ r : R2, IxR X r ∧ ∀ (F H : Hp) (x y : V) (Q : VK), Sub F H → Pk F H x d → Pk F H y k → (∀ v, At F v z → Q v H) → r x y H Q) ∨ dget d k = some (some z) := by
  unfold didx at h
  split at h
  · exact .inl ⟨_, ix_list, fun F H x y Q s ⟨a, vs, e, h1, t⟩ hy q => by
      obtain ⟨v, h2, h3⟩ := atI_at t h
      exact ⟨a, vs, _, v, e, hy, .inl h1, h2, q v h3⟩⟩
  · exact .inl ⟨_, ix_tup, fun F H x y Q s ⟨a, vs, e, h1, t⟩ hy q => by
      obtain ⟨v, h2, h3⟩ := atI_at t h
      exact ⟨a, vs, _, v, e, hy, SqT.of (s _ _ h1), h2, q v h3⟩⟩
  · split at h
    · rename_i x i c
      cases e : atI x.cps.toList i with
      | none => rw [e] at h; cases h
      | some c' =>
        rw [e] at h; cases h
        exact .inl ⟨_, ix_str, fun F H u y Q s hx hy q => ⟨x, i, c', hx, hy, c, e, q _ (.str _)⟩⟩
    · cases h
  · rename_i ks ds
    cases e : k.key with
    | none => rw [e] at h; cases h
    | some k' =>
      rw [e] at h
      exact .inr (by simp only [dget, e, Option.map_some]; exact congrArg some h)
  · rename_i ks ds
    cases e : k.keys with
    | none => rw [e] at h; cases h
    | some k' =>
      rw [e] at h
      exact .inr (by simp only [dget, e, Option.map_some]; exact congrArg some h)
  · cases h
theorem cut_at {vs : List V} {ds : List D} {lo hi : Option Int} (t : AtL F vs ds) : AtL F (cutV vs lo hi) (cutD ds lo hi) := by
  unfold cutV cutD
  rw [t.length]
  exact AtL.take _ (AtL.drop _ t)
theorem cut_whole {α : Type} {xs : List α} {lo hi : Option Int} (h : HT.sIx xs.length 0 lo = 0 ∧ HT.sIx xs.length xs.length hi = xs.length) : cutD xs lo hi = xs := by
  unfold cutD
  rw [h.1, h.2]
  simp
theorem dslc_ok {lo hi : Option Int} (h : dslc d lo hi = some z) : ∃ r, SlR X r ∧ ∀ (F H : Hp) (x : V) (Q : VK), Sub F H → Pk F H x d → (∀ v F' H' A, Prim F H A F' H' v z.rv → Q v H') → r x lo hi H Q := by
  unfold dslc at h
  split at h
  · cases h
    exact ⟨_, sl_list, fun F H x Q s ⟨a, vs, e, h1, t⟩ q => ⟨a, vs, e, .inl h1, fun p hp => q _ _ _ _ (Prim.lst hp s (cut_at t))⟩⟩
  · rename_i ds
    cases h
    refine ⟨_, sl_tupA, fun F H x Q s ⟨a, vs, e, h1, t⟩ q => ⟨a, vs, e, SqT.of (s _ _ h1), fun w => ?_, fun _ p hp => q _ _ _ _ (Prim.tup hp s (cut_at t))⟩⟩
    rw [t.length] at w
    rw [cut_whole w] at q
    exact q _ _ _ _ (Prim.at s (.tup h1 t))
  · cases h
theorem findD_ok {y : D} : ∀ {ds : List D} {j : Nat}, findD y ds = some j → (∃ d, ds[j]? = some d ∧ eqV d.toV y.toV = true) ∧ ∀ (m : Nat) d, m < j → ds[m]? = some d → eqV d.toV y.toV = false
  | [], _, h => by cases h
  | d :: r, j, h => by
    unfold findD at h
    by_cases c : eqV d.toV y.toV = true
    · rw [if_pos c] at h; cases h
      exact ⟨⟨d, rfl, c⟩, fun m _ q => absurd q (Nat.not_lt_zero m)⟩
    · rw [if_neg c] at h
      cases e : findD y r with
      | none => rw [e] at h; cases h
      | some i =>
        rw [e] at h; cases h
        obtain ⟨⟨d', h1, h2⟩, h3⟩ := findD_ok e
        refine ⟨⟨d', by simpa using h1, h2⟩, fun m d'' q w => ?_⟩
        cases m with
        | zero => simp at w; subst w; simpa using c
        | succ m => exact h3 m d'' (Nat.lt_of_succ_lt_succ q) (by simpa using w)
theorem kit_all : ∀ a ∈ ["NoneType", "bool", "int", "str", "tuple", "list", "dict"], ∀ b ∈ ["bool", "int", "str", "list", "tuple", "dict"], kitB a b = some (decide (b = a) || (decide (b = "int") && decide (a = "bool"))) := by
  decide +kernel
theorem ty_mem (d : D) : d.ty ∈ ["NoneType", "bool", "int", "str", "tuple", "list", "dict"] := by
  cases d <;> simp [D.ty]
theorem tyX_of {K : Frag} {v : V} (s : Sub F H) (h : Pk F H v d) : TyX K H v (.type d.ty) := by
  cases d with
  | lst ds =>
    obtain ⟨a, vs, rfl, h1, _⟩ := h
    rcases h1 with h1 | ⟨o, h1⟩
    · exact .base (.lst h1)
    · exact .base (.frz h1)
  | tup ds => obtain ⟨a, vs, rfl, h1, _⟩ := h; exact .base (.tup (s _ _ h1))
  | dk ks ds => obtain ⟨a, vs, rfl, h1, _⟩ := h; exact .base (.dK h1)
  | dt ks ds => obtain ⟨a, vs, rfl, h1, _⟩ := h; exact .base (.dT h1)
  | non => rw [show v = _ from h]; exact .base .non
  | bl b => rw [show v = _ from h]; exact .base (.bl b)
  | int b => rw [show v = _ from h]; exact .base (.int b)
  | str b => rw [show v = _ from h]; exact .base (.str b)
def isTy (ts : List String) (d : D) : Bool := ts.any fun t => decide (t = d.ty) || (decide (t = "int") && decide (d.ty = "bool"))
theorem okTy_mem {t : String} (h : okTy t = true) : t ∈ ["bool", "int", "str", "list", "tuple", "dict"] := by
  unfold okTy at h
  exact List.contains_iff_mem.1 h
theorem kitAny_all {K : Frag} {d : D} : ∀ {ts : List String}, ts.all okTy = true → PySem.W.kitAny K (.type d.ty) (ts.map Value.type) = some (isTy ts d)
  | [], _ => kitAny_nil
  | t :: ts, h => by
    rw [List.all_cons, Bool.and_eq_true] at h
    have k := kit_all d.ty (ty_mem d) t (okTy_mem h.1)
    have ih := kitAny_all (K := K) (d := d) h.2
    rw [List.map_cons]
    refine kitAny_cons (b := (decide (t = d.ty) || (decide (t = "int") && decide (d.ty = "bool")))) (kit_ty k) (fun e => ?_) (fun e => ?_)
    · rw [ih]; unfold isTy; rw [List.any_cons, e, Bool.false_or]
    · unfold isTy; rw [List.any_cons, e, Bool.true_or]
end
end Mi
end
section
set_option Elab.async false
set_option linter.all false
set_option maxRecDepth 100000
namespace Mi
open PySem L2
/-! ### the text's forms -/
def badE : Expr → Bool
  | .Starred .. | .Set .. | .Slice .. | .NamedExpr .. | .Lambda .. | .SetComp .. | .GeneratorExp .. | .Await .. | .Yield .. | .YieldFrom .. | .FormattedValue .. | .JoinedStr .. => true
  | _ => false
theorem mE_good {C : Cfg} {N : List Str} {sc : Scope} {e : Ex} {e' : Expr} (h : mE C N sc e e' = true) : badE e' = false := by
  cases e' <;> first
    | rfl
    | (exfalso; unfold mE at h; split at h <;> first | contradiction | (simp [slotOk] at h; done) | cases h)
theorem star_good {e : Expr} {es : List Expr} {env : PySem.Env} (h : badE e = false) : starEach (e :: es) env = (false, eval e env) :: starEach es env := by
  cases e <;> first | rfl | cases h
theorem mark_good {e : Expr} {op : CmpOp} (h : badE e = false) : behindInMarks op e = false := by
  cases e <;> first | rfl | cases h
theorem ix_good {e : Expr} (h : badE e = false) : PlainIx e := by
  intro o i
  cases e <;> first | rfl | cases h
theorem plain_stars {C : Cfg} {N : List Str} {sc : Scope} {pos : Pos} {env : PySem.Env} : ∀ {es : List Ex} {es' : List Expr}, mEs C N sc es es' = true → (backTo pos (starEach es' env)).any (·.1) = false
  | [], [], _ => rfl
  | [], _ :: _, h => by simp [mEs] at h
  | _ :: _, [], h => by simp [mEs] at h
  | e :: es, e' :: es', h => by
    rw [mEs, Bool.and_eq_true] at h
    rw [star_good (mE_good h.1)]
    have := plain_stars (pos := pos) (env := env) h.2
    show (backTo pos ((false, eval e' env) :: starEach es' env)).any (·.1) = false
    unfold backTo at this ⊢
    rw [List.map_cons, List.any_cons, this]
    rfl
/-! ### contexts -/
/-- what may be let out, at a state of the names -/
abbrev atS (W : WX) (σ : L2.St) : XK := fun cls d H => W cls d σ H
/-- whatever the names -/
abbrev Wk (E : XK) : WX := fun cls d _ H => E cls d H
structure CxOk (P : Program) (w : World) (K : Frag) (mg : Str → Option Value) (base : Heap) (k : Nat) (N : List Str) (sc : Scope) (E0 : WX) (X : Cx) : Prop where
  eP : X.prog = P
  ew : X.w = w
  eK : X.K = K
  emg : X.mg = mg
  ebase : X.base = base
  eN : X.N = N
  nd : N.Nodup
  esc : X.env.scope = sc
  calm : X.calm = true
  room : Room k X.A
  tk : Takes X E0
section
variable (Φ : Calls) (ER : Exn → Value → Option Addr → Hp → Hp → Prop) (E0 : WX) (X : Cx)
abbrev RV1 (σ : L2.St) : Hp → Hp → (Addr → Prop) → V → RV → Prop := fun F H A v r => RvOk F H σ A v r
abbrev Eq1 {α : Type} : Hp → Hp → (Addr → Prop) → α → α → Prop := fun _ _ _ b a => b = a
def SE (e : Ex) (e' : Expr) : Prop := ∀ (env : Env) (F H : Hp) (σ : L2.St) (pv : Nat → Option V) (fp : Nat → Addr → Prop) (Q : VK), Stt F H σ env fp pv → Post ER (atS E0 σ) σ pv (ev Φ e env) (RV1 σ) (cov fp) F H Q → WE X e' σ H Q
def SA (es : List Ex) (es' : List Expr) : Prop := ∀ (env : Env) (F H : Hp) (σ : L2.St) (pv : Nat → Option V) (fp : Nat → Addr → Prop) (Q : List V → Hp → Prop), Stt F H σ env fp pv → Post ER (atS E0 σ) σ pv (evs Φ es env) (fun F H A vs rs => Rvs F H σ A vs rs) (cov fp) F H Q → WA X es' σ H Q
def ST (e : Ex) (e' : Expr) : Prop := ∀ (env : Env) (F H : Hp) (σ : L2.St) (pv : Nat → Option V) (fp : Nat → Addr → Prop) (Q : Bool → Hp → Prop), Stt F H σ env fp pv → Post ER (atS E0 σ) σ pv (evt Φ e env) Eq1 (cov fp) F H Q → WT X e' σ H Q
end
section
variable {Φ : Calls} {ER : Exn → Value → Option Addr → Hp → Hp → Prop} {E0 : WX} {X : Cx} {P : Program} {w : World} {K : Frag} {mg : Str → Option Value} {base : Heap} {k : Nat} {N : List Str} {sc : Scope} {C : Cfg}
theorem vis_of {x : Str} (h : vis sc x = true) : Vis sc x ∧ (x == ("__debug__" : Str)) = false ∧ (x == ("__classdict__" : Str)) = false := by
  unfold vis at h
  rw [Bool.and_eq_true, Bool.and_eq_true] at h
  obtain ⟨⟨h1, h2⟩, h3⟩ := h
  refine ⟨?_, by simpa using h2, by simpa using h3⟩
  cases e : sc.names.lookup x with
  | none => rw [e] at h1; cases h1
  | some q => rw [e] at h1; cases q <;> first | exact .inl e | exact .inr (.inl e) | exact .inr (.inr e) | cases h1
theorem gl_of {x : Str} (h : gl sc x = true) : sc.names.lookup x = some .globalImplicit ∧ (x == ("__debug__" : Str)) = false ∧ x ≠ ("__name__" : Str) := by
  unfold gl at h
  rw [Bool.and_eq_true, Bool.and_eq_true] at h
  obtain ⟨⟨h1, h2⟩, h3⟩ := h
  refine ⟨?_, by simpa using h2, by simpa using h3⟩
  cases e : sc.names.lookup x with
  | none => rw [e] at h1; cases h1
  | some q => rw [e] at h1; cases q <;> first | rfl | cases h1
theorem CxOk.gl (c : CxOk P w K mg base k N sc E0 X) {x : Str} (h : gl sc x = true) : Gl X x := by
  show X.env.scope.names.lookup x = _
  rw [c.esc]; exact (gl_of h).1
theorem slot_name {i : Nat} {e' : Expr} (c : CxOk P w K mg base k N sc E0 X) (h : slotOk N sc i e' = true) : PE X e' (tVar i) := by
  unfold slotOk at h
  split at h
  · rename_i x pos
    rw [Bool.and_eq_true] at h
    obtain ⟨h1, h2⟩ := h
    obtain ⟨v1, v2, v3⟩ := vis_of h2
    exact pe_var (by rw [c.eN]; exact of_decide_eq_true h1) (by rw [c.esc]; exact v1) v2 v3
  · cases h
variable {F H : Hp} {σ : L2.St} {env : Env} {fp : Nat → Addr → Prop} {pv : Nat → Option V} {M : Addr → Prop}
theorem step_ref {A : Addr → Prop} : Step M F H (or2 M none1) F H := Step.refl.weak (fun _ q => q) fun _ q => .inl (or2_none.1 q)
theorem case_var {i : Nat} {e' : Expr} (c : CxOk P w K mg base k N sc E0 X) (h : slotOk N sc i e' = true) : SE Φ ER E0 X (.var i) e' := by
  intro env F H σ pv fp Q S P
  refine wE (slot_name c h) ?_
  unfold ev at P
  have go : ∀ {v : V} {r : RV}, σ[i]? = some (some v) → rd env i = some r → RvOk F H σ none1 v r → tVar i σ H Q := fun e1 e2 q => by
    rw [e2] at P
    exact ⟨_, e1, P _ F H fp none1 S (step_ref (A := none1)) q (fun _ z => z.elim) (fun _ z => z.elim)⟩
  cases e : env[i]? with
  | none => simp [rd, e] at P; exact P.elim
  | some s =>
    cases s with
    | un => simp [rd, e] at P; exact P.elim
    | fz d => obtain ⟨v, e1, q⟩ := S.fzn e; exact go (r := .fz d) e1 (by simp [rd, e]) q
    | ow n d => obtain ⟨v, e1, q⟩ := S.own e; exact go (r := .vw i) e1 (by simp [rd, e]) e1
    | pn n d => obtain ⟨v, e1, q⟩ := S.pinn e; exact go (r := .vw i) e1 (by simp [rd, e]) e1
theorem case_frz {i : Nat} {e' : Expr} (c : CxOk P w K mg base k N sc E0 X) (h : slotOk N sc i e' = true) : SE Φ ER E0 X (.frz i) e' := by
  intro env F H σ pv fp Q S P
  refine wE (slot_name c h) ?_
  unfold ev at P
  cases e : env[i]? with
  | none => simp only [e] at P; exact P.elim
  | some s =>
    cases s with
    | un => simp only [e] at P; exact P.elim
    | pn n d => simp only [e] at P; exact P.elim
    | fz d =>
      simp only [e] at P
      obtain ⟨v, e1, q⟩ := S.fzn e
      exact ⟨v, e1, P v F H fp none1 S (step_ref (A := none1)) q (fun _ z => z.elim) (fun _ z => z.elim)⟩
    | ow n d =>
      simp only [e] at P
      obtain ⟨v, e1, q⟩ := S.own e
      obtain ⟨S', st, ha⟩ := S.freeze e
      exact ⟨v, e1, P v _ H _ none1 S' (st.weak (fun _ q => q) fun _ q => .inl (or2_none.1 q)) (ha v e1) (fun _ z => z.elim) (fun _ z => z.elim)⟩
theorem Stt.move {i n : Nat} {d : D} (S : Stt F H σ env fp pv) (e : env[i]? = some (.ow n d)) : Stt F H σ (env.set i .un) (drop1 fp i) pv where
  sub := S.sub
  len := by rw [List.length_set]; exact S.len
  sl := fun j s q => by
    rcases set_get q with ⟨rfl, rfl, _⟩ | ⟨ne, q⟩
    · trivial
    · have z := S.sl j s q
      have cv : ∀ b, fp j b → drop1 fp i j b := fun b x => ⟨fun e => ne e.symm, x⟩
      cases s with
      | un => trivial
      | fz d => exact z
      | ow n d => obtain ⟨w, e1, h⟩ := z; exact ⟨w, e1, Own.mono (Sub.refl _) cv (fun b u _ x => x) h⟩
      | pn n d => obtain ⟨w, e1, h⟩ := z; exact ⟨w, e1, Own.mono (Sub.refl _) cv (fun b u _ x => x) h⟩
  dis := fun j k b x y => S.dis j k b x.2 y.2
  nof := fun b q => S.nof b (drop1_cov q)
  pin := fun j m d' q => by
    rcases set_get q with ⟨_, z, _⟩ | ⟨_, q⟩
    · cases z
    · exact S.pin j m d' q
theorem case_mv {i : Nat} {e' : Expr} (c : CxOk P w K mg base k N sc E0 X) (h : slotOk N sc i e' = true) : SE Φ ER E0 X (.mv i) e' := by
  intro env F H σ pv fp Q S P
  refine wE (slot_name c h) ?_
  unfold ev at P
  cases e : env[i]? with
  | none => simp only [e] at P; exact P.elim
  | some s =>
    cases s with
    | un => simp only [e] at P; exact P.elim
    | pn n d => simp only [e] at P; exact P.elim
    | fz d => simp only [e] at P; exact P.elim
    | ow n d =>
      simp only [e] at P
      obtain ⟨v, e1, q⟩ := S.own e
      refine ⟨v, e1, P v F H _ (fp i) (S.move e) (Step.refl.weak (fun _ q => q) fun b q => ?_) q (fun b z => S.nof b ⟨i, z⟩) (fun b x y => ?_)⟩
      · rcases q with q | q
        · exact .inl (drop1_cov q)
        · exact .inl ⟨i, q⟩
      · obtain ⟨j, ne, y⟩ := y
        exact ne (S.dis j i b y x)
/-- an evaluation whose end is a value that stands -/
theorem Post.at {Q : VK} {v : V} {d : D} (P : Post ER (atS E0 σ) σ pv (.ok (.fz d) env) (RV1 σ) M F H Q) (S : Stt F H σ env fp pv) (hM : ∀ b, cov fp b → M b) (h : At F v d) : Q v H :=
  P.prim S hM (Prim.at S.sub h)
theorem case_cst {d : D} {c' : Const} {j : Nat} {pos : Pos} (h : mK d c' = true) : SE Φ ER E0 X (.cst d) (.Constant c' j pos) := by
  intro env F H σ pv fp Q S P
  unfold ev at P
  unfold mK at h
  split at h
  · exact wE pe_non (P.at S (fun _ q => q) .non)
  · cases of_decide_eq_true h; exact wE pe_bl (P.at S (fun _ q => q) (.bl _))
  · cases of_decide_eq_true h; exact wE pe_int (P.at S (fun _ q => q) (.int _))
  · cases of_decide_eq_true h; exact wE pe_str (P.at S (fun _ q => q) (.str _))
  · cases h
theorem case_glb {d : D} {x : Str} {pos : Pos} {u : Value} (c : CxOk P w K mg base k N sc E0 X) (hg : Mi.gl sc x = true) (f : d.flat = true) (hm : mg x = some u) (r : RelV d.toV u) : SE Φ ER E0 X (.glb x d) (.Name x pos) := by
  intro env F H σ pv fp Q S P
  unfold ev at P
  exact wE (pe_glob (c.gl hg) (by rw [c.emg]; exact hm) r (gl_of hg).2.1) (P.at S (fun _ q => q) (At.of_flat f))
/-! ### lists of expressions -/
theorem case_nil : SA Φ ER E0 X [] [] := by
  intro env F H σ pv fp Q S P
  exact ⟨_, pa_nil, P [] F H fp none1 S (step_ref (A := none1)) .nil (fun _ z => z.elim) (fun _ z => z.elim)⟩
theorem case_cons {e : Ex} {es : List Ex} {e' : Expr} {es' : List Expr} (hg : badE e' = false) (h1 : SE Φ ER E0 X e e') (h2 : SA Φ ER E0 X es es') : SA Φ ER E0 X (e :: es) (e' :: es') := by
  intro env F H σ pv fp Q S P
  unfold evs at P
  refine ⟨_, pa_cons WE.pe WA.pa (star_good hg), ?_⟩
  refine h1 env F H σ pv fp _ S (P.sp0 fun r e1 v F1 H1 fp1 A1 S1 st1 r1 n1 ap1 P1 => ?_)
  refine h2 e1 F1 H1 σ pv fp1 _ S1 (P1.sp (M0 := cov fp1) (A := A1) (fun b q => .inl q) (fun b q => .inr q) n1 ap1 fun rs e2 vs F2 H2 fp2 A2 S2 st2 r2 n2 ap2 nA aA P2 => ?_)
  refine P2 (v :: vs) F2 H2 fp2 (or2 A1 A2) S2 ?_ (.cons (fun b q => .inl q) (fun b q => .inr q) (fun b x y => aA b x (.inr y)) (r1.step n1 st2 ap1) r2) (fun b q => q.elim (nA b) (n2 b)) (fun b x y => x.elim (fun x => aA b x (.inl y)) (fun x => ap2 b x y))
  exact Step.refl.weak (fun b q => q) fun b q => by
    rcases q with q | q | q
    · exact .inl (.inl (.inl q))
    · exact .inl (.inr q)
    · exact .inl (.inl (.inr q))
end
end Mi
end
section
set_option Elab.async false
set_option linter.all false
set_option maxRecDepth 100000
namespace Mi
open PySem L2
section
variable {Φ : Calls} {ER : Exn → Value → Option Addr → Hp → Hp → Prop} {E0 : WX} {X : Cx} {P : Program} {w : World} {K : Frag} {mg : Str → Option Value} {base : Heap} {k : Nat} {N : List Str} {sc : Scope} {C : Cfg}
variable {F H F' H' : Hp} {σ : L2.St} {env : Env} {fp : Nat → Addr → Prop} {pv : Nat → Option V} {M : Addr → Prop}
/-! ### displays -/
/-- parts of their own under a new root -/
theorem kids_of : ∀ {n : Nat} {A : Addr → Prop} {vs : List V} {rs : List RV} {ds : List D} {p : Addr}, Rvs F H σ A vs rs → (∀ b, A b → b ≠ p) → rs.mapM (owOf n) = some ds → Kids (Own F H n) (or2 A fun b => b = p) p vs ds
  | n, A, _, _, ds, p, .nil, _, e => by
    simp at e; subst e
    exact ⟨rfl, fun _ _ => False, fun _ _ q => q.elim, fun _ _ _ q => q.elim, fun i v d e => by simp at e⟩
  | n, A, _, _, ds, p, .cons (B := B) (C := C) (v := v) (vs := vs) (r := r) (rs := rs) hB hC ab q t, hp, e => by
    rw [List.mapM_cons] at e
    cases r with
    | fz d => simp [owOf] at e
    | vw i => simp [owOf] at e
    | ow m d =>
      by_cases hm : m = n
      · subst hm
        cases e2 : rs.mapM (owOf m) with
        | none => simp [e2, owOf] at e
        | some ds' =>
          simp [e2, owOf] at e
          subst e
          obtain ⟨l, G, h1, h2, h3⟩ := kids_of t (fun b x => hp b (hC b x)) e2
          have inC : ∀ i b, G i b → C b := fun i b x => (h1 i b x).1.elim id fun z => absurd z (h1 i b x).2
          refine ⟨by simp [l], fun i => match i with | 0 => B | i + 1 => G i, fun i b x => ?_, fun i j b x y => ?_, fun i v' d' e1 e2 => ?_⟩
          · cases i with
            | zero => exact ⟨.inl (hB b x), hp b (hB b x)⟩
            | succ i => exact ⟨.inl (hC b (inC i b x)), hp b (hC b (inC i b x))⟩
          · cases i with
            | zero => cases j with
              | zero => rfl
              | succ j => exact (ab b x (inC j b y)).elim
            | succ i => cases j with
              | zero => exact (ab b y (inC i b x)).elim
              | succ j => rw [h2 i j b x y]
          · cases i with
            | zero => simp at e1 e2; subst e1; subst e2; exact q
            | succ i => exact h3 i v' d' (by simpa using e1) (by simpa using e2)
      · simp [hm, owOf] at e
theorem mapM_len {α β : Type} {f : α → Option β} : ∀ {l : List α} {r : List β}, l.mapM f = some r → l.length = r.length
  | [], r, h => by simp at h; subst h; rfl
  | a :: l, r, h => by
    rw [List.mapM_cons] at h
    cases e1 : f a with
    | none => simp [e1] at h
    | some b =>
      cases e2 : l.mapM f with
      | none => simp [e1, e2] at h
      | some r' =>
        simp [e1, e2] at h
        subst h
        rw [List.length_cons, List.length_cons, mapM_len e2]
theorem apart_or {A B D : Addr → Prop} (a : Apart A D) (b : Apart B D) : Apart (or2 A B) D := fun x y z => y.elim (fun y => a x y z) fun y => b x y z
theorem case_tup {n : Nat} {es : List Ex} {es' : List Expr} {j : Nat} {pos : Pos} (h : SA Φ ER E0 X es es') : SE Φ ER E0 X (.tup n es) (.Tuple es' j pos) := by
  intro env F H σ pv fp Q S P
  unfold ev at P
  refine wE (pe_tup WA.pa) (h env F H σ pv fp _ S (P.sp0 fun rs e1 vs F1 H1 fp1 A1 S1 st1 r1 n1 ap1 P1 => ?_))
  by_cases hn : n = 0
  · subst hn
    rw [if_pos rfl] at P1
    cases e2 : keeps rs e1 with
    | none => simp only [e2] at P1; exact P1.elim
    | some p =>
      obtain ⟨ds, e3⟩ := p
      simp only [e2] at P1
      split at P1
      · rename_i hl
        obtain ⟨F2, fp2, S2, st2, t⟩ := keeps_ok S1 r1 n1 ap1 e2
        refine ⟨by rw [t.length]; exact hl, fun p hp => ?_⟩
        exact (P1.step st2).prim S2 (fun b q => q) (Prim.tup hp S2.sub t)
      · exact P1.elim
  · rw [if_neg hn] at P1
    cases e2 : rs.mapM (owOf n) with
    | none => simp only [e2] at P1; exact P1.elim
    | some ds =>
      simp only [e2] at P1
      split at P1
      · rename_i hl
        have kd : ∀ p, H1 p = none → Kids (Own F1 H1 n) (or2 A1 fun b => b = p) p vs ds := fun p hp => kids_of r1 (fun b x e => by
          obtain ⟨_, u, z⟩ := n1 b x
          rw [e, hp] at z; cases z) e2
        refine ⟨by
          have := r1.length
          have l2 : rs.length = ds.length := mapM_len e2
          rw [this, l2]; exact hl, fun p hp => ?_⟩
        have st : Step none1 F1 H1 (fun b => b = p) F1 (upd H1 p (.tup vs)) := step_new hp S1.sub
        have sub2 : Sub F1 (upd H1 p (.tup vs)) := S1.sub.putR (S1.sub.no hp)
        refine P1 (.ref p) F1 _ fp1 (or2 A1 fun b => b = p) (S1.prim st sub2 fun _ _ z => z) ?_ ⟨p, vs, rfl, .inr rfl, upd_same, (kd p hp).mono (fun b q => q) fun B v d _ o => Own.mono (Sub.refl _) (fun _ q => q) (fun b u _ z => by rw [upd_ne (ne_of_none z hp)]; exact z) o⟩ ?_ ?_
        · exact st.weak (fun _ q => q.elim) fun b q => by
            rcases q with q | q | q
            · exact .inr (.inl (.inl q))
            · exact .inr (.inl (.inr q))
            · exact .inl q
        · intro b q
          rcases q with q | q
          · exact (n1.step st fun _ _ z => z) b q
          · exact nof_new hp S1.sub b q
        · refine apart_or ap1 fun b x y => ?_
          obtain ⟨_, u, z⟩ := S1.nof b y
          rw [x, hp] at z; cases z
      · exact P1.elim
theorem case_lst {n : Nat} {es : List Ex} {es' : List Expr} {pos : Pos} (h : SA Φ ER E0 X es es') : SE Φ ER E0 X (.lst n es) (.List es' pos) := by
  intro env F H σ pv fp Q S P
  unfold ev at P
  refine wE (pe_lst WA.pa) (h env F H σ pv fp _ S (P.sp0 fun rs e1 vs F1 H1 fp1 A1 S1 st1 r1 n1 ap1 P1 => ?_))
  cases e2 : keeps rs e1 with
  | none => simp only [e2] at P1; exact P1.elim
  | some p =>
    obtain ⟨ds, e3⟩ := p
    simp only [e2] at P1
    split at P1
    · rename_i hl
      obtain ⟨F2, fp2, S2, st2, t⟩ := keeps_ok S1 r1 n1 ap1 e2
      refine ⟨by rw [t.length]; exact hl, fun p hp => ?_⟩
      exact (P1.step st2).prim S2 (fun b q => q) (Prim.lst hp S2.sub t)
    · exact P1.elim
theorem case_dk0 {pos : Pos} : SE Φ ER E0 X .dk0 (.Dict [] [] pos) := by
  intro env F H σ pv fp Q S P
  unfold ev at P
  exact wE pe_dnewK fun p hp => P.prim S (fun b q => q) (Prim.dk (kvs := []) hp S.sub .nil)
theorem case_dt0 {pos : Pos} : SE Φ ER E0 X .dt0 (.Dict [] [] pos) := by
  intro env F H σ pv fp Q S P
  unfold ev at P
  exact wE pe_dnewT fun p hp => P.prim S (fun b q => q) (Prim.dt (kvs := []) hp S.sub .nil)
/-! ### operators -/
theorem isBop_eq {o : Bop} {o' : Operator} (h : isBop o o' = true) : o' = bopOf o := by
  cases o <;> cases o' <;> first | rfl | cases h
theorem isCop_eq {o : Cop} {o' : CmpOp} (h : isCop o o' = true) : o' = copOf o := by
  cases o <;> cases o' <;> first | rfl | cases h
theorem units_of (c : CxOk P w K mg base k N sc E0 X) : X.A.units + 64 < cLine := c.room.units
/-- the weakest reading of an operator -/
def WOp (X : Cx) (f : Value → Value → Sem Value) : R2 := fun x y H Q => ∃ r, OpR X f r ∧ r x y H Q
theorem WOp.op {X : Cx} {f : Value → Value → Sem Value} : OpR X f (WOp X f) := fun pins s σ H x y v u Q I rx ry ⟨_, h, q⟩ => h pins s σ H x y v u Q I rx ry q
theorem none_of {α : Type} {o : Option α} {f : α → Rs RV} {M : Addr → Prop} {Q : VK} (e : o = none) (P : Post ER (atS E0 σ) σ pv (match o with | some d => f d | none => .no) (RV1 σ) M F H Q) : False := by
  rw [e] at P; exact P
theorem ofO_ok {α : Type} {o : Option RV} {M : Addr → Prop} {Q : VK} (P : Post ER (atS E0 σ) σ pv (ofO o env) (RV1 σ) M F H Q) : ∃ r, o = some r ∧ Post ER (atS E0 σ) σ pv (.ok r env) (RV1 σ) M F H Q := by
  cases o with
  | none => exact P.elim
  | some r => exact ⟨r, rfl, P⟩
theorem case_bin {o : Bop} {a b : Ex} {a' b' : Expr} {o' : Operator} {pos : Pos} (ho : isBop o o' = true) (ha : SE Φ ER E0 X a a') (hb : SE Φ ER E0 X b b') : SE Φ ER E0 X (.bin o a b) (.BinOp a' o' b' pos) := by
  cases isBop_eq ho
  intro env F H σ pv fp Q S P
  unfold ev at P
  refine wE (pe_op WOp.op WE.pe WE.pe) (ha env F H σ pv fp _ S (P.sp0 fun x e1 v F1 H1 fp1 A1 S1 st1 r1 n1 ap1 P1 => ?_))
  refine hb e1 F1 H1 σ pv fp1 _ S1 (P1.sp (M0 := cov fp1) (A := A1) (fun b q => .inl q) (fun b q => .inr q) n1 ap1 fun y e2 u F2 H2 fp2 A2 S2 st2 r2 n2 ap2 nA aA P2 => ?_)
  have r1' := r1.step n1 st2 ap1
  cases s1 : see e2 x with
  | none => simp only [s1] at P2; exact P2.elim
  | some d =>
    cases s2 : see e2 y with
    | none => simp only [s1, s2] at P2; exact P2.elim
    | some d' =>
      simp only [s1, s2] at P2
      cases e : bop o d d' with
      | none => simp only [e] at P2; exact P2.elim
      | some z =>
        simp only [e, Option.map_some, ofO_some] at P2
        obtain ⟨r, hr, hq⟩ := bop_ok (X := X) e
        exact ⟨r, hr, hq F2 H2 v u Q S2.sub (see_ok S2 r1' s1) (see_ok S2 r2 s2) fun v' F3 H3 A3 p => P2.prim S2 (fun b q => .inl (.inl q)) p⟩
theorem case_neg {a : Ex} {a' : Expr} {pos : Pos} (ha : SE Φ ER E0 X a a') : SE Φ ER E0 X (.neg a) (.UnaryOp .USub a' pos) := by
  intro env F H σ pv fp Q S P
  unfold ev at P
  refine wE (pe_un un_neg WE.pe) (ha env F H σ pv fp _ S (P.sp0 fun x e1 v F1 H1 fp1 A1 S1 st1 r1 n1 ap1 P1 => ?_))
  split at P1
  · rename_i i e
    exact ⟨i, see_ok S1 r1 e, P1.at S1 (fun b q => .inl q) (.int _)⟩
  · exact P1.elim
def SR (Φ : Calls) (ER : Exn → Value → Option Addr → Hp → Hp → Prop) (E0 : WX) (e : Ex) (t : TE) : Prop := ∀ (env : Env) (F H : Hp) (σ : L2.St) (pv : Nat → Option V) (fp : Nat → Addr → Prop) (Q : VK), Stt F H σ env fp pv → Post ER (atS E0 σ) σ pv (ev Φ e env) (RV1 σ) (cov fp) F H Q → t σ H Q
theorem read_cmp {o : Cop} {a b : Ex} {a' b' : Expr} (c : CxOk P w K mg base k N sc E0 X) (ha : SE Φ ER E0 X a a') (hb : SE Φ ER E0 X b b') :
    SR Φ ER E0 (.cmp o a b) (tOp (WOp X (compareOp (copOf o))) (WE X a') (WE X b')) := by
  intro env F H σ pv fp Q S P
  unfold ev at P
  refine (ha env F H σ pv fp _ S (P.sp0 fun x e1 v F1 H1 fp1 A1 S1 st1 r1 n1 ap1 P1 => ?_))
  refine hb e1 F1 H1 σ pv fp1 _ S1 (P1.sp (M0 := cov fp1) (A := A1) (fun b q => .inl q) (fun b q => .inr q) n1 ap1 fun y e2 u F2 H2 fp2 A2 S2 st2 r2 n2 ap2 nA aA P2 => ?_)
  have r1' := r1.step n1 st2 ap1
  cases s1 : see e2 x with
  | none => simp only [s1] at P2; exact P2.elim
  | some d =>
    cases s2 : see e2 y with
    | none => simp only [s1, s2] at P2; exact P2.elim
    | some d' =>
      simp only [s1, s2] at P2
      cases e : cop o d d' with
      | none => simp only [e] at P2; exact P2.elim
      | some z =>
        simp only [e, Option.map_some, ofO_some] at P2
        obtain ⟨r, hr, hq⟩ := cop_ok (X := X) (units_of c) e
        exact ⟨r, hr, hq F2 H2 v u Q S2.sub (see_ok S2 r1' s1) (see_ok S2 r2 s2) (P2.at S2 (fun b q => .inl (.inl q)) (.bl _))⟩
theorem marks2 {op op' : CmpOp} {b c : Expr} (h : badE c = false) : lastMarks [op, op'] [b, c] = false := mark_good h
theorem read_chn {o p : Cop} {a b c : Ex} {a' b' c' : Expr} (cx : CxOk P w K mg base k N sc E0 X)
    (ha : SE Φ ER E0 X a a') (hb : SE Φ ER E0 X b b') (hc : SE Φ ER E0 X c c') : SR Φ ER E0 (.chn o p a b c) (tChain (WOp X (compareOp (copOf o))) (WOp X (compareOp (copOf p))) (WE X a') (WE X b') (WE X c')) := by
  intro env F H σ pv fp Q S P
  unfold ev at P
  refine (ha env F H σ pv fp _ S (P.sp0 fun x e1 v F1 H1 fp1 A1 S1 st1 r1 n1 ap1 P1 => ?_))
  refine hb e1 F1 H1 σ pv fp1 _ S1 (P1.sp (M0 := cov fp1) (A := A1) (fun b q => .inl q) (fun b q => .inr q) n1 ap1 fun y e2 u F2 H2 fp2 A2 S2 st2 r2 n2 ap2 nA aA P2 => ?_)
  have r1' := r1.step n1 st2 ap1
  cases s1 : see e2 x with
  | none => simp only [s1] at P2; exact P2.elim
  | some d =>
    cases s2 : see e2 y with
    | none => simp only [s1, s2] at P2; exact P2.elim
    | some d' =>
      simp only [s1, s2] at P2
      cases e : cop o d d' with
      | none => simp only [e] at P2; exact P2.elim
      | some z =>
        obtain ⟨r, hr, hq⟩ := cop_ok (X := X) (units_of cx) e
        refine ⟨r, hr, hq F2 H2 v u _ S2.sub (see_ok S2 r1' s1) (see_ok S2 r2 s2) ⟨z, rfl, ?_⟩⟩
        cases z with
        | false =>
          simp only [e] at P2
          rw [if_neg (by simp)]
          exact P2.at S2 (fun b q => .inl (.inl q)) (.bl _)
        | true =>
          simp only [e] at P2
          rw [if_pos rfl]
          have P2' := P2.less (M' := or2 (cov fp2) A2) fun b q => .inl q
          refine hc e2 F2 H2 σ pv fp2 _ S2 (P2'.sp (M0 := cov fp2) (A := A2) (fun b q => .inl q) (fun b q => .inr q) n2 ap2 fun z e3 u3 F3 H3 fp3 A3 S3 st3 r3 n3 ap3 nA3 aA3 P3 => ?_)
          have r2' := r2.step n2 st3 ap2
          cases s3 : see e3 y with
          | none => simp only [s3] at P3; exact P3.elim
          | some d2 =>
            cases s4 : see e3 z with
            | none => simp only [s3, s4] at P3; exact P3.elim
            | some d3 =>
              simp only [s3, s4] at P3
              cases e' : cop p d2 d3 with
              | none => simp only [e'] at P3; exact P3.elim
              | some z' =>
                simp only [e', Option.map_some, ofO_some] at P3
                obtain ⟨r', hr', hq'⟩ := cop_ok (X := X) (units_of cx) e'
                exact ⟨r', hr', hq' F3 H3 u u3 Q S3.sub (see_ok S3 r2' s3) (see_ok S3 r3 s4) (P3.at S3 (fun b q => .inl (.inl q)) (.bl _))⟩
theorem case_cmp {o : Cop} {a b : Ex} {a' b' : Expr} {o' : CmpOp} {pos : Pos} (c : CxOk P w K mg base k N sc E0 X) (ho : isCop o o' = true) (hg : badE b' = false) (ha : SE Φ ER E0 X a a') (hb : SE Φ ER E0 X b b') :
    SE Φ ER E0 X (.cmp o a b) (.Compare a' [o'] [b'] pos) := by
  cases isCop_eq ho
  exact fun env F H σ pv fp Q S P => wE (pe_cmpR WOp.op WE.pe WE.pe (mark_good hg)) (read_cmp c ha hb env F H σ pv fp Q S P)
theorem case_chn {o p : Cop} {a b c : Ex} {a' b' c' : Expr} {o' p' : CmpOp} {pos : Pos} (cx : CxOk P w K mg base k N sc E0 X) (ho : isCop o o' = true) (hp : isCop p p' = true) (hg : badE c' = false)
    (ha : SE Φ ER E0 X a a') (hb : SE Φ ER E0 X b b') (hc : SE Φ ER E0 X c c') : SE Φ ER E0 X (.chn o p a b c) (.Compare a' [o', p'] [b', c'] pos) := by
  cases isCop_eq ho
  cases isCop_eq hp
  exact fun env F H σ pv fp Q S P => wE (pe_chain WOp.op WOp.op WE.pe WE.pe WE.pe (marks2 hg)) (read_chn cx ha hb hc env F H σ pv fp Q S P)
theorem ev_cmp {o : Cop} {a b : Ex} {x : RV} {e1 : Env} (h : ev Φ (.cmp o a b) env = .ok x e1) : ∃ c, x = .fz (.bl c) := by
  unfold ev at h
  cases ea : ev Φ a env with
  | no => rw [ea] at h; cases h
  | ex x => rw [ea] at h; cases h
  | ok y e2 =>
    rw [ea, Rs.bind_ok] at h
    cases eb : ev Φ b e2 with
    | no => rw [eb] at h; cases h
    | ex x => rw [eb] at h; cases h
    | ok z e3 =>
      rw [eb, Rs.bind_ok] at h
      split at h
      · rename_i d d' _ _
        cases e : cop o d d' with
        | none => rw [e] at h; cases h
        | some c => rw [e] at h; cases h; exact ⟨c, rfl⟩
      · cases h
theorem ev_chn {o p : Cop} {a b c : Ex} {x : RV} {e1 : Env} (h : ev Φ (.chn o p a b c) env = .ok x e1) : ∃ c, x = .fz (.bl c) := by
  unfold ev at h
  cases ea : ev Φ a env with
  | no => rw [ea] at h; cases h
  | ex x => rw [ea] at h; cases h
  | ok y e2 =>
    rw [ea, Rs.bind_ok] at h
    cases eb : ev Φ b e2 with
    | no => rw [eb] at h; cases h
    | ex x => rw [eb] at h; cases h
    | ok z e3 =>
      rw [eb, Rs.bind_ok] at h
      split at h
      · split at h
        · cases ec : ev Φ c e3 with
          | no => rw [ec] at h; cases h
          | ex x => rw [ec] at h; cases h
          | ok w e4 =>
            rw [ec, Rs.bind_ok] at h
            split at h
            · rename_i d d' _ _
              cases e : cop p d d' with
              | none => rw [e] at h; cases h
              | some c => rw [e] at h; cases h; exact ⟨c, rfl⟩
            · cases h
        · cases h; exact ⟨false, rfl⟩
        · cases h
      · cases h
/-! ### and, or, not -/
theorem bl_of {x : RV} {v : V} {b : Bool} {A : Addr → Prop} (h : RvOk F H σ A v x) (e : x = .fz (.bl b)) : v = .bl b := by
  subst e; cases h; rfl
theorem case_and {a b : Ex} {x : Expr} {y : List Expr} {pos : Pos} (ha : SE Φ ER E0 X a x) (hb : y ≠ [] ∧ SE Φ ER E0 X b (.BoolOp .And y pos)) : SE Φ ER E0 X (.and a b) (.BoolOp .And (x :: y) pos) := by
  obtain ⟨hy, hb⟩ := hb
  match y, hy, hb with
  | y1 :: ys, _, hb =>
  intro env F H σ pv fp Q S P
  unfold ev at P
  refine wE (pe_and WE.pe WE.pe) (ha env F H σ pv fp _ S (P.sp0 fun x e1 v F1 H1 fp1 A1 S1 st1 r1 n1 ap1 P1 => ?_))
  split at P1
  · refine ⟨true, bl_of r1 rfl, ?_⟩
    rw [if_pos rfl]
    exact hb e1 F1 H1 σ pv fp1 Q S1 (P1.less fun b q => .inl q)
  · refine ⟨false, bl_of r1 rfl, ?_⟩
    rw [if_neg (by simp)]
    exact P1.at S1 (fun b q => .inl q) (.bl _)
  · exact P1.elim
theorem case_or {a b : Ex} {x : Expr} {y : List Expr} {pos : Pos} (ha : SE Φ ER E0 X a x) (hb : y ≠ [] ∧ SE Φ ER E0 X b (.BoolOp .Or y pos)) : SE Φ ER E0 X (.or a b) (.BoolOp .Or (x :: y) pos) := by
  obtain ⟨hy, hb⟩ := hb
  match y, hy, hb with
  | y1 :: ys, _, hb =>
  intro env F H σ pv fp Q S P
  unfold ev at P
  refine wE (pe_or WE.pe WE.pe) (ha env F H σ pv fp _ S (P.sp0 fun x e1 v F1 H1 fp1 A1 S1 st1 r1 n1 ap1 P1 => ?_))
  split at P1
  · refine ⟨true, bl_of r1 rfl, ?_⟩
    rw [if_pos rfl]
    exact P1.at S1 (fun b q => .inl q) (.bl _)
  · refine ⟨false, bl_of r1 rfl, ?_⟩
    rw [if_neg (by simp)]
    exact hb e1 F1 H1 σ pv fp1 Q S1 (P1.less fun b q => .inl q)
  · exact P1.elim
theorem case_one {a : Ex} {x : Expr} {op : BoolOp} {pos : Pos} (ha : SE Φ ER E0 X a x) : SE Φ ER E0 X (.one a) (.BoolOp op [x] pos) := by
  intro env F H σ pv fp Q S P
  unfold ev at P
  exact wE (pe_one WE.pe) (ha env F H σ pv fp Q S P)
theorem case_not {a : Ex} {x : Expr} {pos : Pos} (ha : SE Φ ER E0 X a x) : SE Φ ER E0 X (.not a) (.UnaryOp .Not x pos) := by
  intro env F H σ pv fp Q S P
  unfold ev at P
  refine wE (pe_not WE.pe) (ha env F H σ pv fp _ S (P.sp0 fun x e1 v F1 H1 fp1 A1 S1 st1 r1 n1 ap1 P1 => ?_))
  split at P1
  · rename_i c
    exact ⟨c, bl_of r1 rfl, P1.at S1 (fun b q => .inl q) (.bl _)⟩
  · exact P1.elim
theorem case_ifx {c a b : Ex} {c' a' b' : Expr} {pos : Pos} (hc : ST Φ ER E0 X c c') (ha : SE Φ ER E0 X a a') (hb : SE Φ ER E0 X b b') : SE Φ ER E0 X (.ifx c a b) (.IfExp c' a' b' pos) := by
  intro env F H σ pv fp Q S P
  unfold ev at P
  refine wE (pe_ifExp WT.pt WE.pe WE.pe) (hc env F H σ pv fp _ S (P.sp0 fun x e1 v F1 H1 fp1 A1 S1 st1 r1 n1 ap1 P1 => ?_))
  cases r1
  cases x with
  | true => exact ha e1 F1 H1 σ pv fp1 Q S1 (P1.less fun b q => .inl q)
  | false => exact hb e1 F1 H1 σ pv fp1 Q S1 (P1.less fun b q => .inl q)
/-! ### tests -/
theorem caseT_not {a : Ex} {x : Expr} {pos : Pos} (ha : ST Φ ER E0 X a x) : ST Φ ER E0 X (.not a) (.UnaryOp .Not x pos) := by
  intro env F H σ pv fp Q S P
  unfold evt at P
  refine wT (pt_not WT.pt) (ha env F H σ pv fp _ S (P.sp0 fun x e1 v F1 H1 fp1 A1 S1 st1 r1 n1 ap1 P1 => ?_))
  cases r1
  exact P1 (!x) F1 H1 fp1 none1 S1 (step_ref (A := none1) |>.weak (fun _ q => q) fun b q => q.elim (fun q => .inr (.inl (.inl q))) False.elim) rfl (fun _ z => z.elim) (fun _ z => z.elim)
/-- an end of a test -/
theorem Post.bl {Q : Bool → Hp → Prop} {c : Bool} {A : Addr → Prop} (P : Post ER (atS E0 σ) σ pv (.ok c env) Eq1 (or2 (cov fp) A) F H Q) (S : Stt F H σ env fp pv) : Q c H :=
  P c F H fp none1 S (Step.refl.weak (fun _ q => q) fun b q => q.elim (fun q => .inr (.inl (.inl q))) False.elim) rfl (fun _ z => z.elim) (fun _ z => z.elim)
/-- the truth of what stands -/
theorem tru_at {K : Frag} {v : V} {d : D} {b : Bool} (s : Sub F H) (h : Pk F H v d) (e : d.tru = some b) : TruV K v H b := by
  cases d with
  | non => rw [show v = _ from h]; cases e; exact rfl
  | bl c => rw [show v = _ from h]; cases e; exact rfl
  | int i => rw [show v = _ from h]; cases e; exact rfl
  | str x =>
    rw [show v = _ from h]
    unfold D.tru at e
    dsimp only at e
    split at e
    · rename_i c; cases e; exact ⟨c, rfl⟩
    · cases e
  | lst ds =>
    obtain ⟨a, vs, rfl, h1, t⟩ := h
    cases e
    refine .inl ⟨vs, .inl h1, ?_⟩
    cases t <;> rfl
  | tup ds =>
    obtain ⟨a, vs, rfl, h1, t⟩ := h
    cases e
    refine .inr (.inl ⟨vs, SqT.of (s _ _ h1), ?_⟩)
    cases t <;> rfl
  | dk ks ds =>
    obtain ⟨a, kvs, rfl, h1, rfl, t⟩ := h
    cases e
    refine .inr (.inr ⟨kvs, h1, ?_⟩)
    cases kvs <;> rfl
  | dt ks ds => cases e
theorem isTrue_plain {e' : Expr} (h : (match e' with | .UnaryOp .Not .. => false | .BoolOp .. => false | .IfExp .. => false | .Compare .. => false | _ => true) = true) : ∀ {env : PySem.Env} whole, isTrue e' env whole = (do let v ← whole; standAt e'.pos; holding [v] (truthy v)) := by
  intro env whole
  cases e' with
  | UnaryOp op a p => cases op <;> first | rfl | cases h
  | BoolOp => cases h
  | IfExp => cases h
  | Compare => cases h
  | _ => rfl
theorem caseT_tst {a : Ex} {e' : Expr} (h : (match e' with | .UnaryOp .Not .. => false | .BoolOp .. => false | .IfExp .. => false | .Compare .. => false | _ => true) = true) (ha : SE Φ ER E0 X a e') : ST Φ ER E0 X (.tst a) e' := by
  intro env F H σ pv fp Q S P
  unfold evt at P
  refine wT (pt_truth WE.pe (isTrue_plain h)) (ha env F H σ pv fp _ S (P.sp0 fun x e1 v F1 H1 fp1 A1 S1 st1 r1 n1 ap1 P1 => ?_))
  cases e2 : look1 e1 x with
  | none => simp only [e2] at P1; exact P1.elim
  | some d =>
    simp only [e2] at P1
    cases e3 : d.tru with
    | none => simp only [e3] at P1; exact P1.elim
    | some b =>
      simp only [e3, ofO_some] at P1
      obtain ⟨F2, S2, st2, _, pk⟩ := look1_ok S1 r1 n1 ap1 e2
      have P2 := P1.step st2
      exact ⟨b, tru_at S2.sub pk e3, P2 b H1 |> fun _ => (P2.less (M' := cov fp1) fun b q => q) b F2 H1 fp1 none1 S2 (step_ref (A := none1)) rfl (fun _ z => z.elim) (fun _ z => z.elim)⟩
theorem caseT_bl {a : Ex} {e' : Expr} {t : TE} (hp : PT X e' (tTest t)) (hb : ∀ {env x e1}, ev Φ a env = .ok x e1 → ∃ c, x = .fz (.bl c)) (ha : SR Φ ER E0 a t) : ST Φ ER E0 X (.tst a) e' := by
  intro env F H σ pv fp Q S P
  unfold evt at P
  refine wT hp (ha env F H σ pv fp _ S ?_)
  cases ea : ev Φ a env with
  | no => rw [ea] at P; exact P
  | ex x => rw [ea] at P; exact P
  | ok x e1 =>
    obtain ⟨c, rfl⟩ := hb ea
    rw [ea, Rs.bind_ok] at P
    intro v F1 H1 fp1 A1 S1 st1 r1 n1 ap1
    cases r1
    refine ⟨c, rfl, ?_⟩
    exact P c F1 H1 fp1 A1 S1 st1 rfl n1 ap1
def SW (Φ : Calls) (ER : Exn → Value → Option Addr → Hp → Hp → Prop) (E0 : WX) (X : Cx) (e : Ex) (e' : Expr) : Prop := ∀ (env : Env) (F H : Hp) (σ : L2.St) (pv : Nat → Option V) (fp : Nat → Addr → Prop) (Q : Bool → Hp → Prop), Stt F H σ env fp pv → Post ER (atS E0 σ) σ pv (evt Φ e env) Eq1 (cov fp) F H Q → ∃ t, PW X e' t ∧ t σ H Q
theorem PWw {e' : Expr} : PW X e' (fun σ H Q => ∃ t, PW X e' t ∧ t σ H Q) := ⟨fun whole pins s σ H Q I ⟨_, h, q⟩ => h.run whole pins s σ H Q I q⟩
theorem SW.st {e : Ex} {e' : Expr} (h : SW Φ ER E0 X e e') : ST Φ ER E0 X e e' := fun env F H σ pv fp Q S P => by
  obtain ⟨t, p, q⟩ := h env F H σ pv fp Q S P
  exact ⟨t, p.pt, q⟩
theorem caseT_and {a b : Ex} {x : Expr} {y : List Expr} {pos : Pos} (ha : ST Φ ER E0 X a x) (hb : y ≠ [] ∧ SW Φ ER E0 X b (.BoolOp .And y pos)) : SW Φ ER E0 X (.and a b) (.BoolOp .And (x :: y) pos) := by
  obtain ⟨hy, hb⟩ := hb
  match y, hy, hb with
  | y1 :: ys, _, hb =>
  intro env F H σ pv fp Q S P
  unfold evt at P
  refine ⟨_, pw_and WT.pt PWw, ha env F H σ pv fp _ S (P.sp0 fun x e1 v F1 H1 fp1 A1 S1 st1 r1 n1 ap1 P1 => ?_)⟩
  cases r1
  cases x with
  | true =>
    rw [if_pos rfl]
    exact hb e1 F1 H1 σ pv fp1 Q S1 (P1.less fun b q => .inl q)
  | false =>
    rw [if_neg (by simp)]
    exact P1.bl S1
theorem caseT_or {a b : Ex} {x : Expr} {y : List Expr} {pos : Pos} (ha : ST Φ ER E0 X a x) (hb : y ≠ [] ∧ SW Φ ER E0 X b (.BoolOp .Or y pos)) : SW Φ ER E0 X (.or a b) (.BoolOp .Or (x :: y) pos) := by
  obtain ⟨hy, hb⟩ := hb
  match y, hy, hb with
  | y1 :: ys, _, hb =>
  intro env F H σ pv fp Q S P
  unfold evt at P
  refine ⟨_, pw_or WT.pt PWw, ha env F H σ pv fp _ S (P.sp0 fun x e1 v F1 H1 fp1 A1 S1 st1 r1 n1 ap1 P1 => ?_)⟩
  cases r1
  cases x with
  | true =>
    rw [if_pos rfl]
    exact P1.bl S1
  | false =>
    rw [if_neg (by simp)]
    exact hb e1 F1 H1 σ pv fp1 Q S1 (P1.less fun b q => .inl q)
theorem caseT_one {a : Ex} {x : Expr} {op : PySem.BoolOp} {pos : Pos} (ha : ST Φ ER E0 X a x) : SW Φ ER E0 X (.one a) (.BoolOp op [x] pos) := by
  intro env F H σ pv fp Q S P
  unfold evt at P
  cases op with
  | And => exact ⟨_, pw_and1 WT.pt, ha env F H σ pv fp Q S P⟩
  | Or => exact ⟨_, pw_or1 WT.pt, ha env F H σ pv fp Q S P⟩
end
end Mi
end
section
set_option Elab.async false
set_option linter.all false
set_option maxRecDepth 100000
namespace Mi
open PySem L2
/-! ### calls of one's own defs -/
def lentS : SV → Bool
  | .fz _ => true
  | .pn _ _ => true
  | _ => false
def AnsOk (ER : Exn → Value → Option Addr → Hp → Hp → Prop) (vs : List V) (fp : Nat → Addr → Prop) (F H : Hp) (Q : VK) (E : XK) : Ans → Prop
  | .no => False
  | .ex x => ∀ cls d F' H', Step (cov fp) F H none1 F' H' → Sub F' H' → ER x cls d F' H' → E cls d H'
  | .ok r ss' => ∀ v F' H' fp' A, Step (cov fp) F H (or2 (cov fp') A) F' H' → Sub F' H' → RvOk F' H' [] A v r →
      (∀ i s v, ss'[i]? = some s → vs[i]? = some v → SlotOk F' H' (fp' i) (some v) s) → (∀ i j b, fp' i b → fp' j b → i = j) → Nof F' H' (or2 (cov fp') A) → Apart A (cov fp') → Q v H'
def SpOf (ER : Exn → Value → Option Addr → Hp → Hp → Prop) (np : Nat) (Ψ : List SV → Ans) : Sp := fun vs H Q E => ∃ (F : Hp) (ss : List SV) (fp : Nat → Addr → Prop), Sub F H ∧ vs.length = np ∧ ss.length = np ∧
  (∀ i s v, ss[i]? = some s → vs[i]? = some v → SlotOk F H (fp i) (some v) s) ∧ (∀ s ∈ ss, lentS s = true) ∧ (∀ i j b, fp i b → fp j b → i = j) ∧ Nof F H (cov fp) ∧ AnsOk ER vs fp F H Q E (Ψ ss)
/-- an own exception, made of one value -/
def tRaise (ER : Exn → Value → Option Addr → Hp → Hp → Prop) (c : Nat) (te : TE) : L2.St → Hp → XK → Prop := fun σ H Q => te σ H fun v H1 => ∃ (F : Hp) (d : D), Sub F H1 ∧ At F v d ∧ exArg d = true ∧ ∀ cls dd F2 H2, Step none1 F H1 none1 F2 H2 → Sub F2 H2 → ER ⟨c, d⟩ cls dd F2 H2 → Q cls dd H2
structure Tab (C : Cfg) (P : Program) (w : World) (K : Frag) (mg : Str → Option Value) (base : Heap) (Φ : Calls) (ER : Exn → Value → Option Addr → Hp → Hp → Prop) (k : Nat) : Prop where
  fns : ∀ f x, C.fns[f]? = some x → ∃ (a : Addr) (fd : FuncData) (ps : List Str), mg x = some (.ref a) ∧ PySem.W.keepIn K (.ref a) = true ∧ Binds K fd ps [] ∧ FnOk P w K mg base (CX P w) k a fd ps (SpOf ER ps.length (Φ f)) ∧ ∀ ss : List SV, ss.length ≠ ps.length → Φ f ss = .no
  globs : ∀ x d, (x, d) ∈ C.globs → d.flat = true ∧ ∃ u, mg x = some u ∧ RelV d.toV u
  exn : ∀ (c : Nat) (x : Str), C.exns[c]? = some x → ∀ (X : Cx) (E0 : WX) (N : List Str) (sc : Scope), CxOk P w K mg base k N sc E0 X → gl sc x = true → ∀ (e' : Expr) (p pos : Pos), badE e' = false → PMk X (.Call (.Name x p) [e'] [] pos) (tRaise ER c (WE X e'))
  blts : ∀ x, x ∈ (["len", "int", "abs", "all", "any", "sum", "tuple", "list", "max", "min", "reversed", "isinstance", "range", "enumerate", "bool", "str", "dict"] : List Str) → mg x = none
section
variable {Φ : Calls} {ER : Exn → Value → Option Addr → Hp → Hp → Prop} {E0 : WX} {X : Cx} {P : Program} {w : World} {K : Frag} {mg : Str → Option Value} {base : Heap} {k : Nat} {N : List Str} {sc : Scope} {C : Cfg}
variable {F H F' H' : Hp} {σ : L2.St} {env env' : Env} {fp : Nat → Addr → Prop} {pv : Nat → Option V} {M A : Addr → Prop}
theorem Rvs.idx : ∀ {A : Addr → Prop} {vs : List V} {rs : List RV}, Rvs F H σ A vs rs → ∃ B : Nat → Addr → Prop, (∀ i b, B i b → A b) ∧ (∀ i j b, B i b → B j b → i = j) ∧ ∀ (i : Nat) v r, vs[i]? = some v → rs[i]? = some r → RvOk F H σ (B i) v r
  | A, _, _, .nil => ⟨fun _ _ => False, fun _ _ q => q.elim, fun _ _ _ q => q.elim, fun i v r e => by simp at e⟩
  | A, _, _, .cons (B := B) (C := C) hB hC ab q t => by
    obtain ⟨G, h1, h2, h3⟩ := t.idx
    refine ⟨fun i => match i with | 0 => B | i + 1 => G i, fun i b x => ?_, fun i j b x y => ?_, fun i v r e1 e2 => ?_⟩
    · cases i with
      | zero => exact hB b x
      | succ i => exact hC b (h1 i b x)
    · cases i with
      | zero => cases j with
        | zero => rfl
        | succ j => exact (ab b x (h1 j b y)).elim
      | succ i => cases j with
        | zero => exact (ab b y (h1 i b x)).elim
        | succ j => rw [h2 i j b x y]
    · cases i with
      | zero => simp at e1 e2; subst e1; subst e2; exact q
      | succ i => exact h3 i v r (by simpa using e1) (by simpa using e2)
theorem lends_get : ∀ {rs : List RV} {ss : List SV}, lends env rs = some ss → ss.length = rs.length ∧ ∀ (i : Nat) s, ss[i]? = some s → ∃ r, rs[i]? = some r ∧ lend env r = some s
  | [], ss, h => by cases h; exact ⟨rfl, fun i s e => by simp at e⟩
  | r :: rs, ss, h => by
    unfold lends at h
    cases e1 : lend env r with
    | none => simp [e1] at h
    | some s =>
      cases e2 : lends env rs with
      | none => simp [e1, e2] at h
      | some ss' =>
        simp [e1, e2] at h
        subst h
        obtain ⟨l, g⟩ := lends_get e2
        refine ⟨by rw [List.length_cons, List.length_cons, l], fun i s' e => ?_⟩
        cases i with
        | zero => simp at e; subst e; exact ⟨r, by simp, e1⟩
        | succ i =>
          obtain ⟨r', h1, h2⟩ := g i s' (by simpa using e)
          exact ⟨r', by simpa using h1, h2⟩
theorem lend_lent {r : RV} {s : SV} (h : lend env r = some s) : lentS s = true := by
  cases r with
  | fz d => cases h; rfl
  | ow n d => cases h; rfl
  | vw i =>
    unfold lend at h
    cases e : obj env i with
    | none => simp [e] at h
    | some p => simp [e] at h; subst h; rfl
theorem apart_get : ∀ {rs : List RV} {us : List Nat}, apart rs us = true → (∀ (i j k : Nat), rs[i]? = some (.vw k) → rs[j]? = some (.vw k) → i = j) ∧ ∀ (i k : Nat), rs[i]? = some (.vw k) → k ∉ us
  | [], us, _ => ⟨fun i j k e => by simp at e, fun i k e => by simp at e⟩
  | r :: rs, us, h => by
    have go : ∀ {us'}, apart rs us' = true → (∀ k, k ∈ us → k ∈ us') → (∀ k, r = .vw k → k ∉ us ∧ k ∈ us') → (∀ (i j k : Nat), (r :: rs)[i]? = some (.vw k) → (r :: rs)[j]? = some (.vw k) → i = j) ∧ ∀ (i k : Nat), (r :: rs)[i]? = some (.vw k) → k ∉ us := fun {us'} ha hs hr => by
      obtain ⟨g1, g2⟩ := apart_get ha
      refine ⟨fun i j k e1 e2 => ?_, fun i k e => ?_⟩
      · cases i with
        | zero => cases j with
          | zero => rfl
          | succ j =>
            simp at e1
            exact absurd (hr k e1).2 (g2 j k (by simpa using e2))
        | succ i => cases j with
          | zero =>
            simp at e2
            exact absurd (hr k e2).2 (g2 i k (by simpa using e1))
          | succ j => rw [g1 i j k (by simpa using e1) (by simpa using e2)]
      · cases i with
        | zero => simp at e; exact (hr k e).1
        | succ i => exact fun m => g2 i k (by simpa using e) (hs k m)
    cases r with
    | fz d => exact go (us' := us) h (fun _ q => q) (fun k e => by cases e)
    | ow n d => exact go (us' := us) h (fun _ q => q) (fun k e => by cases e)
    | vw i =>
      unfold apart at h
      rw [Bool.and_eq_true] at h
      refine go (us' := i :: us) h.2 (fun _ q => List.mem_cons_of_mem _ q) (fun k e => ?_)
      cases e
      exact ⟨by simpa using h.1, List.mem_cons_self⟩
/-- what was lent comes back -/
theorem back_get : ∀ {rs : List RV} {ss : List SV} {env env' : Env}, back rs ss env = some env' → (∀ (i j k : Nat), rs[i]? = some (.vw k) → rs[j]? = some (.vw k) → i = j) →
    env'.length = env.length ∧ ss.length = rs.length ∧ (∀ j, (∀ i : Nat, rs[i]? ≠ some (.vw j)) → env'[j]? = env[j]?) ∧
    ∀ (i j : Nat), rs[i]? = some (.vw j) → ∃ n d, ss[i]? = some (.pn n d) ∧ ((∃ m e, env[j]? = some (.ow m e) ∧ env'[j]? = some (.ow n d)) ∨ ∃ m e, env[j]? = some (.pn m e) ∧ env'[j]? = some (.pn n d))
  | [], [], env, env', h, _ => by
    cases h
    exact ⟨rfl, rfl, fun j _ => rfl, fun i j e => by simp at e⟩
  | [], _ :: _, env, env', h, _ => by simp [back] at h
  | r :: rs, ss, env, env', h, inj => by
    have inj' : ∀ (i j k : Nat), rs[i]? = some (.vw k) → rs[j]? = some (.vw k) → i = j := fun i j k e1 e2 => by
      have := inj (i + 1) (j + 1) k (by simpa using e1) (by simpa using e2)
      omega
    have plain : ∀ {s : SV} {ss' : List SV}, ss = s :: ss' → (∀ k, r ≠ .vw k) → back rs ss' env = some env' → env'.length = env.length ∧ ss.length = (r :: rs).length ∧ (∀ j, (∀ i : Nat, (r :: rs)[i]? ≠ some (.vw j)) → env'[j]? = env[j]?) ∧
        ∀ (i j : Nat), (r :: rs)[i]? = some (.vw j) → ∃ n d, ss[i]? = some (.pn n d) ∧ ((∃ m e, env[j]? = some (.ow m e) ∧ env'[j]? = some (.ow n d)) ∨ ∃ m e, env[j]? = some (.pn m e) ∧ env'[j]? = some (.pn n d)) := fun {s ss'} es nr hb => by
      subst es
      obtain ⟨l1, l2, g1, g2⟩ := back_get hb inj'
      refine ⟨l1, by rw [List.length_cons, List.length_cons, l2], fun j hj => g1 j fun i e => hj (i + 1) (by simpa using e), fun i j e => ?_⟩
      cases i with
      | zero => simp at e; exact absurd e (nr j)
      | succ i => exact g2 i j (by simpa using e)
    cases r with
    | fz d => cases ss with
      | nil => simp [back] at h
      | cons s ss' => exact plain rfl (fun k e => by cases e) h
    | ow n d => cases ss with
      | nil => simp [back] at h
      | cons s ss' => exact plain rfl (fun k e => by cases e) h
    | vw k =>
      cases ss with
      | nil => simp [back] at h
      | cons s ss' =>
        cases s with
        | un => simp [back] at h
        | fz d => simp [back] at h
        | ow n d => simp [back] at h
        | pn n d =>
          have nk : ∀ i : Nat, rs[i]? ≠ some (.vw k) := fun i e => by
            have := inj 0 (i + 1) k (by simp) (by simpa using e)
            omega
          have fin : ∀ {sv : SV}, back rs ss' (env.set k sv) = some env' → k < env.length → ((∃ m e, env[k]? = some (.ow m e) ∧ sv = .ow n d) ∨ ∃ m e, env[k]? = some (.pn m e) ∧ sv = .pn n d) → env'.length = env.length ∧ (SV.pn n d :: ss').length = (RV.vw k :: rs).length ∧ (∀ j, (∀ i : Nat, (RV.vw k :: rs)[i]? ≠ some (.vw j)) → env'[j]? = env[j]?) ∧
              ∀ (i j : Nat), (RV.vw k :: rs)[i]? = some (.vw j) → ∃ n' d', (SV.pn n d :: ss')[i]? = some (.pn n' d') ∧ ((∃ m e, env[j]? = some (.ow m e) ∧ env'[j]? = some (.ow n' d')) ∨ ∃ m e, env[j]? = some (.pn m e) ∧ env'[j]? = some (.pn n' d')) := fun {sv} hb hk hs => by
            obtain ⟨l1, l2, g1, g2⟩ := back_get hb inj'
            have ek : env'[k]? = some sv := by rw [g1 k nk, List.getElem?_set_self hk]
            refine ⟨by rw [l1, List.length_set], by rw [List.length_cons, List.length_cons, l2], fun j hj => ?_, fun i j e => ?_⟩
            · have hjk : k ≠ j := fun e => hj 0 (by simp [e])
              rw [g1 j fun i e => hj (i + 1) (by simpa using e), List.getElem?_set_ne hjk]
            · cases i with
              | zero =>
                simp at e; subst e
                refine ⟨n, d, by simp, ?_⟩
                rcases hs with ⟨m, e, h1, h2⟩ | ⟨m, e, h1, h2⟩
                · subst h2; exact .inl ⟨m, e, h1, ek⟩
                · subst h2; exact .inr ⟨m, e, h1, ek⟩
              | succ i =>
                have hjk : k ≠ j := fun e' => nk i (by subst e'; simpa using e)
                obtain ⟨n', d', h1, h2⟩ := g2 i j (by simpa using e)
                rw [List.getElem?_set_ne hjk] at h2
                exact ⟨n', d', by simpa using h1, h2⟩
          unfold back at h
          cases e : env[k]? with
          | none => simp only [e] at h; cases h
          | some s =>
            have hk : k < env.length := (List.getElem?_eq_some_iff.1 e).1
            cases s with
            | un => simp only [e] at h; cases h
            | fz d' => simp only [e] at h; cases h
            | ow m d' => simp only [e] at h; exact fin h hk (.inl ⟨m, d', e, rfl⟩)
            | pn m d' => simp only [e] at h; exact fin h hk (.inr ⟨m, d', e, rfl⟩)
def lentTo (rs : List RV) (fp B : Nat → Addr → Prop) : Nat → Addr → Prop := fun i b => (∃ j, rs[i]? = some (.vw j) ∧ fp j b) ∨ (∃ n d, rs[i]? = some (.ow n d) ∧ B i b)
def lentBack (rs : List RV) (fp fp' : Nat → Addr → Prop) : Nat → Addr → Prop := fun j b => (∃ i : Nat, rs[i]? = some (.vw j) ∧ fp' i b) ∨ ((∀ i : Nat, rs[i]? ≠ some (.vw j)) ∧ fp j b)
theorem call_read {Q : VK} {vs : List V} {rs : List RV} {e1 : Env} {Ψ : List SV → Ans} {np : Nat} {ss : List SV} (S : Stt F H σ e1 fp pv) (r1 : Rvs F H σ A vs rs) (n1 : Nof F H A) (ap : Apart A (cov fp)) (ha : apart rs [] = true) (hl : lends e1 rs = some ss) (hnp : rs.length = np)
    (Pq : Post ER (atS E0 σ) σ pv (match Ψ ss with
        | .ok r ss' => ofO ((back rs ss' e1).map fun e' => (r, e')) e1 |>.bind fun p _ => .ok p.1 p.2
        | .ex x => .ex x
        | .no => .no) (RV1 σ) (or2 (cov fp) A) F H Q) : SpOf ER np Ψ vs H Q (atS E0 σ) := by
  obtain ⟨B, b1, b2, b3⟩ := r1.idx
  obtain ⟨l, g⟩ := lends_get hl
  obtain ⟨inj, _⟩ := apart_get ha
  have lv := r1.length
  -- the arguments' cells
  have fa1 : ∀ b, cov (lentTo rs fp B) b → or2 (cov fp) A b := fun b ⟨i, q⟩ => by
    rcases q with ⟨j, _, q⟩ | ⟨n, d, _, q⟩
    · exact .inl ⟨j, q⟩
    · exact .inr (b1 i b q)
  have fa2 : ∀ i j b, lentTo rs fp B i b → lentTo rs fp B j b → i = j := fun i j b x y => by
    rcases x with ⟨k, e1, x⟩ | ⟨n, d, e1, x⟩
    · rcases y with ⟨k', e2, y⟩ | ⟨n', d', e2, y⟩
      · have := S.dis k k' b x y; subst this; exact inj i j k e1 e2
      · exact (ap b (b1 j b y) ⟨k, x⟩).elim
    · rcases y with ⟨k', e2, y⟩ | ⟨n', d', e2, y⟩
      · exact (ap b (b1 i b x) ⟨k', y⟩).elim
      · exact b2 i j b x y
  have nA : Nof F H (cov (lentTo rs fp B)) := fun b q => by
    rcases fa1 b q with q | q
    · exact S.nof b q
    · exact n1 b q
  refine ⟨F, ss, lentTo rs fp B, S.sub, by rw [lv, hnp], by rw [l, hnp], fun i s v e1' e2' => ?_, fun s hs => ?_, fa2, nA, ?_⟩
  · obtain ⟨r, er, hlr⟩ := g i s e1'
    have rr := b3 i v r e2' er
    cases r with
    | fz d => cases hlr; exact ⟨v, rfl, rr⟩
    | ow n d => cases hlr; exact ⟨v, rfl, Own.mono (Sub.refl _) (fun b q => .inr ⟨n, d, er, q⟩) (fun b u _ z => z) rr⟩
    | vw j =>
      unfold lend at hlr
      cases eo : obj e1 j with
      | none => simp [eo] at hlr
      | some p =>
        obtain ⟨n, d⟩ := p
        simp [eo] at hlr; subst hlr
        obtain ⟨w', ew, ho⟩ := S.objn eo
        have : σ[j]? = some (some v) := rr
        rw [ew] at this; cases this
        exact ⟨_, rfl, Own.mono (Sub.refl _) (fun b q => .inl ⟨j, er, q⟩) (fun b u _ z => z) ho⟩
  · obtain ⟨i, hi, e⟩ := List.getElem_of_mem hs
    obtain ⟨r, _, hlr⟩ := g i s (by rw [List.getElem?_eq_getElem hi, e])
    exact lend_lent hlr
  · cases eΨ : Ψ ss with
    | no => rw [eΨ] at Pq; exact Pq
    | ex x =>
      rw [eΨ] at Pq
      exact fun cls d G J st s e => Pq cls d G J (st.weak fa1 fun _ z => z.elim) s e
    | ok r ss' =>
      rw [eΨ] at Pq
      dsimp only at Pq
      cases eb : back rs ss' e1 with
      | none => rw [eb] at Pq; exact Pq.elim
      | some e2 =>
        rw [eb, Option.map_some, ofO_some, Rs.bind_ok] at Pq
        obtain ⟨q1, q2, q3, q4⟩ := back_get eb inj
        intro v G J fp' A' st sub rv sl dis no apA
        -- the slots behind
        have stay : ∀ j, (∀ i : Nat, rs[i]? ≠ some (.vw j)) → Apart (fp j) (cov (lentTo rs fp B)) := fun j hj b x ⟨i, y⟩ => by
          rcases y with ⟨k, e1', y⟩ | ⟨n, d, e1', y⟩
          · have := S.dis j k b x y; subst this; exact hj i e1'
          · exact ap b (b1 i b y) ⟨j, x⟩
        have nj : ∀ j, Nof F H (fp j) := fun j b x => S.nof b ⟨j, x⟩
        refine Pq v G J (lentBack rs fp fp') A' ⟨sub, by rw [q1]; exact S.len, fun j s e => ?_, fun j j' b x y => ?_, fun b ⟨j, x⟩ => ?_, fun j n d e => ?_⟩ ?_ (by
          cases r with
          | fz d => exact rv
          | ow n d => exact rv
          | vw i => simp [RvOk] at rv) (fun b x => no b (.inr x)) (fun b x ⟨j, y⟩ => ?_)
        · by_cases hj : ∃ i : Nat, rs[i]? = some (.vw j)
          · obtain ⟨i, hi⟩ := hj
            obtain ⟨n, d, h1, h2⟩ := q4 i j hi
            have hi' : i < rs.length := (List.getElem?_eq_some_iff.1 hi).1
            have ev : vs[i]? = some (vs[i]'(by omega)) := List.getElem?_eq_getElem _
            obtain ⟨w', e3, ho⟩ := sl i _ _ h1 ev
            cases e3
            have es : σ[j]? = some (some (vs[i]'(by omega))) := b3 i _ _ ev hi
            have ho' : Own G J n (lentBack rs fp fp' j) (vs[i]'(by omega)) d := Own.mono (Sub.refl _) (fun b q => .inl ⟨i, hi, q⟩) (fun b u _ z => z) ho
            rcases h2 with ⟨m, e', h3, h4⟩ | ⟨m, e', h3, h4⟩
            · rw [h4] at e; cases e; exact ⟨_, by rw [es]; rfl, ho'⟩
            · rw [h4] at e; cases e; exact ⟨_, by rw [es]; rfl, ho'⟩
          · have hj' : ∀ i : Nat, rs[i]? ≠ some (.vw j) := fun i e => hj ⟨i, e⟩
            rw [q3 j hj'] at e
            have z := S.sl j s e
            have cv : ∀ b, fp j b → lentBack rs fp fp' j b := fun b x => .inr ⟨hj', x⟩
            cases s with
            | un => trivial
            | fz d => obtain ⟨w', e1', h⟩ := z; exact ⟨w', e1', At.mono st.sub h⟩
            | ow n d => obtain ⟨w', e1', h⟩ := z; exact ⟨w', e1', Own.mono (Sub.refl _) cv (fun b u _ x => x) (Own.step h (nj j) st (stay j hj'))⟩
            | pn n d => obtain ⟨w', e1', h⟩ := z; exact ⟨w', e1', Own.mono (Sub.refl _) cv (fun b u _ x => x) (Own.step h (nj j) st (stay j hj'))⟩
        · have cross : ∀ {j j' i : Nat} {b}, rs[i]? = some (.vw j) → fp' i b → (∀ i : Nat, rs[i]? ≠ some (.vw j')) → fp j' b → False := fun {j j' i b} e1' x hj' y => by
            rcases st.foot b (.inl ⟨i, x⟩) with z | z
            · exact stay j' hj' b y z
            · obtain ⟨_, u, e'⟩ := nj j' b y
              rw [e'] at z; cases z
          rcases x with ⟨i, e1', x⟩ | ⟨hj, x⟩
          · rcases y with ⟨i', e2', y⟩ | ⟨hj', y⟩
            · have := dis i i' b x y; subst this
              rw [e1'] at e2'; cases e2'; rfl
            · exact (cross e1' x hj' y).elim
          · rcases y with ⟨i', e2', y⟩ | ⟨hj', y⟩
            · exact (cross e2' y hj x).elim
            · exact S.dis j j' b x y
        · rcases x with ⟨i, e1', x⟩ | ⟨hj, x⟩
          · exact no b (.inl ⟨i, x⟩)
          · exact Nof.step (nj j) st (stay j hj) b x
        · by_cases hj : ∃ i : Nat, rs[i]? = some (.vw j)
          · obtain ⟨i, hi⟩ := hj
            obtain ⟨n', d', h1, h2⟩ := q4 i j hi
            rcases h2 with ⟨m, e', h3, h4⟩ | ⟨m, e', h3, h4⟩
            · rw [h4] at e; cases e
            · exact S.pin j m e' h3
          · rw [q3 j fun i e => hj ⟨i, e⟩] at e
            exact S.pin j n d e
        · refine st.weak fa1 fun b q => ?_
          rcases q with ⟨j, q⟩ | q
          · rcases q with ⟨i, _, q⟩ | ⟨_, q⟩
            · exact .inl (.inl ⟨i, q⟩)
            · exact .inr (.inl (.inl ⟨j, q⟩))
          · exact .inl (.inr q)
        · rcases y with ⟨i, _, y⟩ | ⟨hj, y⟩
          · exact apA b x ⟨i, y⟩
          · rcases st.foot b (.inr x) with z | z
            · exact stay j hj b y z
            · obtain ⟨_, u, e'⟩ := nj j b y
              rw [e'] at z; cases z
theorem evs_len : ∀ {es : List Ex} {env e1 : Env} {rs : List RV}, evs Φ es env = .ok rs e1 → rs.length = es.length
  | [], env, e1, rs, h => by unfold evs at h; cases h; rfl
  | e :: es, env, e1, rs, h => by
    unfold evs at h
    cases ea : ev Φ e env with
    | no => rw [ea] at h; cases h
    | ex x => rw [ea] at h; cases h
    | ok y e2 =>
      rw [ea, Rs.bind_ok] at h
      cases eb : evs Φ es e2 with
      | no => rw [eb] at h; cases h
      | ex x => rw [eb] at h; cases h
      | ok z e3 =>
        rw [eb, Rs.bind_ok] at h
        cases h
        rw [List.length_cons, List.length_cons, evs_len eb]
end
end Mi
end
section
set_option Elab.async false
set_option linter.all false
set_option maxRecDepth 100000
namespace Mi
open PySem L2 PySem.Spec PyProof.Rows
section
variable {X : Cx} {pins : List (Addr × Obj)} {σ : L2.St} {H : Hp} {s : Shared} {a : Addr} {u r : Value} {y d : V} {A : Around} {E : Value → Shared → Prop}
theorem d_setdT {kvs : List (List Key × V)} {k : List Key} {b : Addr} {Q : Value → Shared → Prop} (hu : A.units + 1 < cLine) (I : Inv X pins σ H s) (e : H a = some (.dT kvs)) (eb : H b = some (.tup (k.map kV))) (rd : RelV d r) (hl : kvs.length < sizeLine)
    (h1 : ∀ v, valV kvs k = some v → ∀ (w' : Value) (s' : Shared), Inv X pins σ H s' → RelV v w' → Q w' s') (h2 : valV kvs k = none → ∀ (w' : Value) (s' : Shared), Inv X pins σ (upd H a (.dT (putK kvs k d))) s' → RelV d w' → Q w' s') :
    wpAny (model X.prog X.w) A (call (.builtin "dict.setdefault") [.ref a, .ref b, r]) Q E s := by
  obtain ⟨z, hd, xs, rel, dd⟩ := dt_of I.hok e
  have hz : xs.length ≤ sizeLine := by rw [← Paired.length rel]; exact z
  refine call_setdefault_heap (hsz := hz) (tupleKind_room_in1 hu) (key_of I.hok eb) hd dd (fun p hp => ?_) (fun hn h' dd' hs => ?_)
  · have q := rel.val k
    rw [hp] at q
    cases q0 : valV kvs k with
    | none => rw [q0] at q; exact (show False from q).elim
    | some v0 => rw [q0] at q; exact h1 v0 q0 _ _ (I.tok _) q
  · have q := rel.val k
    rw [hn] at q
    cases q0 : valV kvs k with
    | some v0 => rw [q0] at q; exact (show False from q).elim
    | none =>
      have hl2 : (putK kvs k d).length ≤ sizeLine := by
        have := length_putK kvs k d
        omega
      obtain ⟨q, es, ep, hq, z2, z3, z4, _, z5⟩ := dd'
      refine h2 q0 _ _ (d_write I (by rw [e]; exact True.intro) hs ⟨q, hq⟩ ⟨hl2, hd, _, (rel.put k eb rd).keeps fun c ys ec => ?_, q, es, ep, hq, z2, z3, z4, z5⟩) rd
      rw [upd_ne (ne_of ec e (fun z => nomatch z))]
      exact ec
end
def DSetd (H : Hp) (a : Addr) (y z : V) (Q : VK) : Prop :=
  (∃ (kvs : List (Key × V)) (k : Key), H a = some (.dK kvs) ∧ y = kV k ∧ kvs.length < sizeLine ∧ (∀ v, valV kvs k = some v → Q v H) ∧ (valV kvs k = none → Q z (upd H a (.dK (putK kvs k z))))) ∨
  ∃ (kvs : List (List Key × V)) (k : List Key) (b : Addr), H a = some (.dT kvs) ∧ y = .ref b ∧ H b = some (.tup (k.map kV)) ∧ kvs.length < sizeLine ∧ (∀ v, valV kvs k = some v → Q v H) ∧ (valV kvs k = none → Q z (upd H a (.dT (putK kvs k z))))
def tDSetdA (td ty tx : TE) : TE := fun σ H Q => td σ H fun x H1 => ∃ a, x = .ref a ∧ IsD H1 a ∧ ty σ H1 fun y H2 => tx σ H2 fun z H3 => DSetd H3 a y z Q
section
variable {X : Cx} {o e f : Expr} {td ty tx : TE} {apos cpos : Pos}
theorem pe_dsetdA (hu : X.A.units + 1 < cLine) (ho : PE X o td) (he : PE X e ty) (hf : PE X f tx) (m : M2 X o "setdefault" apos e f cpos) : PE X (.Call (.Attribute o "setdefault" apos) [e, f] [] cpos) (tDSetdA td ty tx) := by
  refine ⟨fun pins s σ H Q I h => ?_⟩
  refine wpAny_Call_method m.base m.few m.line PySem.F.plainAttrs_dict PySem.F.slot_dict_setdefault PySem.F.type_dict_setdefault (thn (ho.run pins s σ H _ I h) fun u s1 ⟨x, H1, I1, rx, a, ex, d, q1⟩ => ?_)
  subst ex
  obtain rfl : u = Value.ref a := rx
  obtain ⟨t1, t2, _⟩ := isD_at I1 d
  refine ⟨t1, t2, ?_⟩
  rw [m.trees]
  refine Calls.callWith_builtin rfl (Calls.evalArgs_plain (Calls.spliced_cons (thn (he.run pins s1 σ H1 _ I1 q1) fun iv s2 ⟨y, H2, I2, ry, q2⟩ =>
    Calls.spliced_cons (thn (hf.run pins s2 σ H2 _ I2 q2) fun fv s3 ⟨z, H3, I3, rz, q3⟩ => Calls.spliced_nil ?_))))
  rcases q3 with ⟨kvs, k, ea, ey, hl, q3, q4⟩ | ⟨kvs, k, b, ea, ey, eb, hl, q3, q4⟩
  · subst ey
    exact d_setd I3 ea ry rz hl (fun v hv w' s4 I4 rw' => ⟨v, _, I4, rw', q3 v hv⟩) fun hn w' s4 I4 rw' => ⟨z, _, I4, rw', q4 hn⟩
  · subst ey
    obtain rfl : iv = Value.ref b := ry
    exact d_setdT hu I3 ea eb rz hl (fun v hv w' s4 I4 rw' => ⟨v, _, I4, rw', q3 v hv⟩) fun hn w' s4 I4 rw' => ⟨z, _, I4, rw', q4 hn⟩
theorem ix_dict (hu : X.A.units + 1 < cLine) : IxR X (fun x y H Q => ∃ a v, x = .ref a ∧ DGet H a y (some v) ∧ Q v H) := by
  intro value slice pins s σ H x y v u Q I rx ry h hs
  obtain ⟨a, z, rfl, g, q⟩ := h
  cases rx
  have hT := dict_typeIs I g
  unfold subscriptTail
  refine wpAny_bind ?_
  rw [getitemInPython_of_ne hT.not_modules]
  refine wpAny_bind (wpAny_specialOf hT F.slot_dict_getitem.lookup ?_)
  have fin : wpAny (model X.prog X.w) X.A (subscripted slice false (.ref a) u) (fun r s₃ => wpAny (model X.prog X.w) X.A (letTemporaryGo value (.ref a) r >>= fun _ => pure r) (EP X pins σ Q) X.xe s₃) X.xe s := by
    rw [hs]
    exact wpAny_operating (d_getItem hu I g ry fun w' s' I' r' => wpAny_bind (wpAny_letTemporaryGo (wpAny_pure ⟨z, H, I', r', q⟩)))
  first
    | exact wpAny_pure (wpAny_bind fin)
    | exact wpAny_bind fin
end
end Mi
end
section
set_option Elab.async false
set_option linter.all false
set_option maxRecDepth 100000
namespace Mi
open PySem L2
section
open PySem.Spec PyProof.Rows
variable {X : Cx} {CX : CXT} {k : Nat} {f : Addr} {fd : FuncData} {ps : List Str} {sp : Sp} {E : L2.St → XK} {x : Str} {p pos : Pos}
theorem pe_call0S (F : FnOk X.prog X.w X.K X.mg X.base CX k f fd ps sp) (hr : Room k X.A) (hg : Gl X x) (hm : X.mg x = some (.ref f)) (hk : PySem.W.keepIn X.K (.ref f) = true) (hb : Binds X.K fd ps []) (hx : ∀ σ, PassesAt CX X σ (E σ)) (hdb : (x == ("__debug__" : Str)) = false) :
    PE X (.Call (.Name x p) [] [] pos) (fun σ H Q => sp [] H Q (E σ)) := by
  refine ⟨fun pins s σ H Q I h => ?_⟩
  refine wpAny_Call_Name_kw (ld_glob I hg hm ?_ hdb)
  exact PySem.W.callWith_K0 I.kIn hk (run_fnS (us := []) F hr hb (hx σ) I .nil h)
end
section
variable {Φ : Calls} {ER : Exn → Value → Option Addr → Hp → Hp → Prop} {E0 : WX} {X : Cx} {P : Program} {w : World} {K : Frag} {mg : Str → Option Value} {base : Heap} {k : Nat} {N : List Str} {sc : Scope} {C : Cfg}
variable {F H F' H' : Hp} {σ : L2.St} {env env' : Env} {fp : Nat → Addr → Prop} {pv : Nat → Option V} {M A : Addr → Prop}
theorem case_call {f : Nat} {es : List Ex} {es' : List Expr} {x : Str} {p pos : Pos} (T : Tab C P w K mg base Φ ER k) (c : CxOk P w K mg base k N sc E0 X) (hx : C.fns[f]? = some x) (hg : Mi.gl sc x = true) (hm : mEs C N sc es es' = true)
    (h : SA Φ ER E0 X es es') : SE Φ ER E0 X (.call f es) (.Call (.Name x p) es' [] pos) := by
  obtain ⟨a, fd, ps, h1, h2, h3, h4, h5⟩ := T.fns f x hx
  cases c.eP; cases c.ew; cases c.eK; cases c.emg; cases c.ebase
  intro env F H σ pv fp Q S P
  unfold ev at P
  have go : ∀ (rs : List RV) (e1 : Env) (vs : List V) (F1 H1 : Hp) (fp1 : Nat → Addr → Prop) (A1 : Addr → Prop), Stt F1 H1 σ e1 fp1 pv → Rvs F1 H1 σ A1 vs rs → Nof F1 H1 A1 → Apart A1 (cov fp1) →
      Post ER (atS E0 σ) σ pv (if apart rs [] then match lends e1 rs with
        | some ss => match Φ f ss with
          | .ok r ss' => ofO ((back rs ss' e1).map fun e' => (r, e')) e1 |>.bind fun p _ => .ok p.1 p.2
          | .ex x => .ex x
          | .no => .no
        | none => .no else .no) (RV1 σ) (or2 (cov fp1) A1) F1 H1 Q → SpOf ER ps.length (Φ f) vs H1 Q (atS E0 σ) := by
    intro rs e1 vs F1 H1 fp1 A1 S1 r1 n1 ap1 P1
    split at P1
    · rename_i ha
      cases hl : lends e1 rs with
      | none => simp only [hl] at P1; exact P1.elim
      | some ss =>
        simp only [hl] at P1
        have hn : rs.length = ps.length := by
          by_cases hn : ss.length = ps.length
          · rw [← hn]; exact (lends_get hl).1.symm
          · rw [h5 ss hn] at P1; exact P1.elim
        exact call_read S1 r1 n1 ap1 ha hl hn P1
    · exact P1.elim
  have px : ∀ σ, PassesAt (CX X.prog X.w) X σ (atS E0 σ) := fun σ => passAt c.tk σ
  cases es' with
  | nil =>
    cases es with
    | cons _ _ => simp [mEs] at hm
    | nil =>
      refine wE (pe_call0S h4 c.room (c.gl hg) h1 h2 h3 px (gl_of hg).2.1) ?_
      unfold evs at P
      exact go [] env [] F H fp none1 S .nil (fun _ z => z.elim) (fun _ z => z.elim) (P.less fun b q => or2_none.1 q)
  | cons e' es' =>
    cases es with
    | nil => simp [mEs] at hm
    | cons e es =>
      rw [mEs, Bool.and_eq_true] at hm
      refine wE (pe_callS h4 c.room (c.gl hg) h1 h2 h3 px WA.pa (gl_of hg).2.1 (star_good (mE_good hm.1)) (plain_stars hm.2)) ?_
      refine h env F H σ pv fp _ S (P.sp0 fun rs e1 vs F1 H1 fp1 A1 S1 st1 r1 n1 ap1 P1 => ?_)
      exact go rs e1 vs F1 H1 fp1 A1 S1 r1 n1 ap1 P1
/-! ### built-ins -/
def WCall (X : Cx) (f : Value) : List V → Hp → VK → Prop := fun vs H Q => ∃ r, CallR X f r ∧ r vs H Q
theorem WCall.op {X : Cx} {f : Value} : CallR X f (WCall X f) := fun pins s σ H xs us Q I rx ⟨_, h, q⟩ => h pins s σ H xs us Q I rx q
theorem blt_kind (f : Blt) : (∃ id, bootBuiltins (bltName f) = some (.builtin id)) ∨ ∃ t, bootBuiltins (bltName f) = some (.type t) := by
  cases f
  · exact .inl ⟨_, PySem.boot_len⟩
  · exact .inr ⟨"int", by decide +kernel⟩
  · exact .inl ⟨"abs", by decide +kernel⟩
  · exact .inl ⟨"all", by decide +kernel⟩
  · exact .inl ⟨"any", by decide +kernel⟩
  · exact .inl ⟨"sum", by decide +kernel⟩
  · exact .inr ⟨"tuple", by decide +kernel⟩
  · exact .inr ⟨"list", by decide +kernel⟩
  · exact .inr ⟨"list", by decide +kernel⟩
  · exact .inl ⟨"max", by decide +kernel⟩
  · exact .inl ⟨"min", by decide +kernel⟩
theorem glName_of {x : Str} {e : Expr} (h : glName sc x e = true) : ∃ p, e = .Name x p ∧ Mi.gl sc x = true := by
  unfold glName at h
  split at h
  · rename_i y p
    rw [Bool.and_eq_true] at h
    cases of_decide_eq_true h.1
    exact ⟨p, rfl, h.2⟩
  · cases h
theorem blt_mem (f : Blt) : bltName f ∈ (["len", "int", "abs", "all", "any", "sum", "tuple", "list", "max", "min", "reversed", "isinstance", "range", "enumerate", "bool", "str", "dict"] : List Str) := by
  cases f <;> decide +kernel
theorem case_blt {f : Blt} {es : List Ex} {e' : Expr} {es' : List Expr} {fe : Expr} {pos : Pos} (T : Tab C P w K mg base Φ ER k) (c : CxOk P w K mg base k N sc E0 X) (hf : f ≠ .listrev) (hn : glName sc (bltName f) fe = true) (hm : mEs C N sc es (e' :: es') = true)
    (h : SA Φ ER E0 X es (e' :: es')) : SE Φ ER E0 X (.blt f es) (.Call fe (e' :: es') [] pos) := by
  obtain ⟨p, rfl, hg⟩ := glName_of hn
  intro env F H σ pv fp Q S P
  unfold ev at P
  cases es with
  | nil => simp [mEs] at hm
  | cons e es =>
  rw [mEs, Bool.and_eq_true] at hm
  have mgn : X.mg (bltName f) = none := by rw [c.emg]; exact T.blts _ (blt_mem f)
  have go : ∀ (rs : List RV) (e1 : Env) (vs : List V) (F1 H1 : Hp) (fp1 : Nat → Addr → Prop) (A1 : Addr → Prop), Stt F1 H1 σ e1 fp1 pv → Rvs F1 H1 σ A1 vs rs → Nof F1 H1 A1 → Apart A1 (cov fp1) →
      Post ER (atS E0 σ) σ pv (match looks e1 rs with
        | some ds => ofO ((bltin f ds).map D.rv) e1
        | none => .no) (RV1 σ) (or2 (cov fp1) A1) F1 H1 Q → ∃ r, IsCall X (bltName f) r ∧ r vs H1 Q := by
    intro rs e1 vs F1 H1 fp1 A1 S1 r1 n1 ap1 P1
    cases hl : looks e1 rs with
    | none => simp only [hl] at P1; exact P1.elim
    | some ds =>
      simp only [hl] at P1
      cases eb : bltin f ds with
      | none => simp only [eb] at P1; exact P1.elim
      | some z =>
        simp only [eb, Option.map_some, ofO_some] at P1
        obtain ⟨r, hr, hq⟩ := bltin_ok (X := X) c.calm hf eb
        obtain ⟨F2, S2, st2, pk⟩ := looks_ok S1 r1 n1 ap1 hl
        exact ⟨r, hr, hq F2 H1 vs Q S2.sub pk fun v F3 H3 A3 q => (P1.step st2).prim S2 (fun b q => q) q⟩
  rcases blt_kind f with ⟨id, hb⟩ | ⟨t, hb⟩
  · refine wE (pe_callB WCall.op (c.gl hg) mgn hb WA.pa (gl_of hg).2.2 (gl_of hg).2.1 (star_good (mE_good hm.1)) (plain_stars hm.2)) ?_
    refine h env F H σ pv fp _ S (P.sp0 fun rs e1 vs F1 H1 fp1 A1 S1 st1 r1 n1 ap1 P1 => ?_)
    obtain ⟨r, hr, q⟩ := go rs e1 vs F1 H1 fp1 A1 S1 r1 n1 ap1 P1
    rcases hr with ⟨id', h1, h2⟩ | ⟨t', h1, h2⟩
    · rw [hb] at h1; cases h1; exact ⟨r, h2, q⟩
    · rw [hb] at h1; cases h1
  · refine wE (pe_callTy WCall.op (c.gl hg) mgn hb WA.pa (gl_of hg).2.2 (gl_of hg).2.1 (star_good (mE_good hm.1)) (plain_stars hm.2)) ?_
    refine h env F H σ pv fp _ S (P.sp0 fun rs e1 vs F1 H1 fp1 A1 S1 st1 r1 n1 ap1 P1 => ?_)
    obtain ⟨r, hr, q⟩ := go rs e1 vs F1 H1 fp1 A1 S1 r1 n1 ap1 P1
    rcases hr with ⟨id', h1, h2⟩ | ⟨t', h1, h2⟩
    · rw [hb] at h1; cases h1
    · rw [hb] at h1; cases h1; exact ⟨r, h2, q⟩
/-! ### isinstance -/
theorem boot_ty {t : String} (h : okTy t = true) : bootBuiltins (Str.ofString t) = some (.type t) := by
  have m := okTy_mem h
  simp only [List.mem_cons, List.not_mem_nil, or_false] at m
  rcases m with rfl | rfl | rfl | rfl | rfl | rfl <;> decide +kernel
theorem ty_mem2 {t : String} (h : okTy t = true) : Str.ofString t ∈ (["len", "int", "abs", "all", "any", "sum", "tuple", "list", "max", "min", "reversed", "isinstance", "range", "enumerate", "bool", "str", "dict"] : List Str) := by
  have m := okTy_mem h
  simp only [List.mem_cons, List.not_mem_nil, or_false] at m
  rcases m with rfl | rfl | rfl | rfl | rfl | rfl <;> decide +kernel
theorem ty_name {t : String} {e : Expr} (T : Tab C P w K mg base Φ ER k) (c : CxOk P w K mg base k N sc E0 X) (ht : okTy t = true) (h : glName sc (Str.ofString t) e = true) : PE X e (tC (.ty t)) := by
  obtain ⟨p, rfl, hg⟩ := glName_of h
  exact pe_bltn (c.gl hg) (by rw [c.emg]; exact T.blts _ (ty_mem2 ht)) (boot_ty ht) rfl (gl_of hg).2.2 (gl_of hg).2.1
theorem name_good {x : Str} {e : Expr} (h : glName sc x e = true) : badE e = false := by
  obtain ⟨p, rfl, hg⟩ := glName_of h
  rfl
def tTys (ts : List String) : TA := fun _ H Q => Q (ts.map V.ty) H
theorem ty_names (T : Tab C P w K mg base Φ ER k) (c : CxOk P w K mg base k N sc E0 X) : ∀ {ts : List String} {es : List Expr}, ts.all okTy = true → tyNames sc ts es = true → PA X es (tTys ts)
  | [], [], _, _ => pa_nil
  | [], _ :: _, _, h => by simp [tyNames] at h
  | _ :: _, [], _, h => by simp [tyNames] at h
  | t :: ts, e :: es, h1, h2 => by
    rw [List.all_cons, Bool.and_eq_true] at h1
    rw [tyNames, Bool.and_eq_true] at h2
    exact pa_cons (ty_name T c h1.1 h2.1) (ty_names T c h1.2 h2.2) (star_good (name_good h2.1))
theorem isi_mem : ("isinstance" : Str) ∈ (["len", "int", "abs", "all", "any", "sum", "tuple", "list", "max", "min", "reversed", "isinstance", "range", "enumerate", "bool", "str", "dict"] : List Str) := by decide +kernel
theorem case_isi1 {t : String} {a : Ex} {a' fe te : Expr} {pos : Pos} (T : Tab C P w K mg base Φ ER k) (c : CxOk P w K mg base k N sc E0 X) (hn : glName sc "isinstance" fe = true) (ht : okTy t = true) (hg : badE a' = false) (hte : glName sc (Str.ofString t) te = true)
    (ha : SE Φ ER E0 X a a') : SE Φ ER E0 X (.isi [t] a) (.Call fe [a', te] [] pos) := by
  obtain ⟨p, rfl, hgl⟩ := glName_of hn
  intro env F H σ pv fp Q S P
  unfold ev at P
  have sg : starEach [te] X.env = (false, eval te X.env) :: starEach [] X.env := star_good (name_good hte)
  refine wE (pe_callB call_isi (c.gl hgl) (by rw [c.emg]; exact T.blts _ isi_mem) (by decide +kernel) (pa_cons WE.pe (pa_cons (ty_name T c ht hte) pa_nil sg) (star_good hg)) (gl_of hgl).2.2 (gl_of hgl).2.1 (star_good hg) (by rw [sg]; rfl)) ?_
  refine ha env F H σ pv fp _ S (P.sp0 fun x e1 v F1 H1 fp1 A1 S1 st1 r1 n1 ap1 P1 => ?_)
  cases e2 : look1 e1 x with
  | none => simp only [e2] at P1; exact P1.elim
  | some d =>
    simp only [e2] at P1
    obtain ⟨F2, S2, st2, _, pk⟩ := look1_ok S1 r1 n1 ap1 e2
    have kk := kit_ty (K := X.K) (kit_all d.ty (ty_mem d) t (okTy_mem ht))
    refine ⟨v, .ty t, _, _, _, rfl, .ty t, tyX_of S2.sub pk, kk, ?_⟩
    have := (P1.step st2).at S2 (fun b q => q) (.bl _)
    simpa using this
theorem step_junk {p : Addr} {o : HO} (hp : H p = none) (s : Sub F H) : Step none1 F H none1 F (upd H p o) := (step_new hp s).weak (fun _ z => z) (fun b z => False.elim z)
theorem Pk.put {p : Addr} {o : HO} {v : V} {d : D} (hp : H p = none) (h : Pk F H v d) : Pk F (upd H p o) v d := by
  have up : ∀ {a : Addr} {u : HO}, H a = some u → upd H p o a = some u := fun {a u} e => by rw [upd_ne (ne_of_none e hp)]; exact e
  cases d with
  | lst ds =>
    obtain ⟨a, vs, e, h1, t⟩ := h
    refine ⟨a, vs, e, ?_, t⟩
    rcases h1 with h1 | ⟨ob, h1⟩
    · exact .inl (up h1)
    · exact .inr ⟨ob, up h1⟩
  | tup ds => exact h
  | dk ks ds => obtain ⟨a, vs, e, h1, e2, t⟩ := h; exact ⟨a, vs, e, up h1, e2, t⟩
  | dt ks ds => obtain ⟨a, vs, e, h1, e2, t⟩ := h; exact ⟨a, vs, e, up h1, e2, t⟩
  | non => exact h
  | bl b => exact h
  | int b => exact h
  | str b => exact h
theorem case_isiT {ts : List String} {a : Ex} {a' fe : Expr} {es : List Expr} {j : Nat} {pos pt : Pos} (T : Tab C P w K mg base Φ ER k) (c : CxOk P w K mg base k N sc E0 X) (hn : glName sc "isinstance" fe = true) (ht : ts.all okTy = true) (h8 : ts.length ≤ 8) (hg : badE a' = false) (hte : tyNames sc ts es = true)
    (ha : SE Φ ER E0 X a a') : SE Φ ER E0 X (.isi ts a) (.Call fe [a', .Tuple es j pt] [] pos) := by
  obtain ⟨p, rfl, hgl⟩ := glName_of hn
  intro env F H σ pv fp Q S P
  unfold ev at P
  refine wE (pe_callB call_isiT (c.gl hgl) (by rw [c.emg]; exact T.blts _ isi_mem) (by decide +kernel) (pa_cons WE.pe (pa_cons (pe_tup (ty_names T c ht hte)) pa_nil) (star_good hg)) (gl_of hgl).2.2 (gl_of hgl).2.1 (star_good hg) rfl) ?_
  refine ha env F H σ pv fp _ S (P.sp0 fun x e1 v F1 H1 fp1 A1 S1 st1 r1 n1 ap1 P1 => ?_)
  cases e2 : look1 e1 x with
  | none => simp only [e2] at P1; exact P1.elim
  | some d =>
    simp only [e2] at P1
    obtain ⟨F2, S2, st2, _, pk⟩ := look1_ok S1 r1 n1 ap1 e2
    have hlen : (ts.map V.ty).length ≤ sizeLine := by
      have : (8 : Nat) ≤ sizeLine := by decide
      rw [List.length_map]; omega
    refine ⟨hlen, fun q hq => ?_⟩
    have paired : ∀ ts : List String, Paired ClsV (ts.map V.ty) (ts.map Value.type) := fun ts => by
      induction ts with
      | nil => exact .nil
      | cons t ts ih => exact .cons (.ty t) ih
    have pk' : Pk F2 (upd H1 q (.tup (ts.map V.ty))) v d := pk.put hq
    refine ⟨v, q, ts.map V.ty, _, ts.map Value.type, _, rfl, upd_same, paired ts, tyX_of (S2.sub.putR (S2.sub.no hq)) pk', kitAny_all ht, ?_⟩
    have P2 := P1.step st2
    exact P2.prim S2 (fun b q => q) (v := .bl (isTy ts d)) ⟨step_junk hq S2.sub, S2.sub.putR (S2.sub.no hq), fun _ => .bl _, fun _ z => z.elim⟩
end
end Mi
end
section
set_option Elab.async false
set_option linter.all false
set_option maxRecDepth 100000
namespace Mi
open PySem L2
section
variable {Φ : Calls} {ER : Exn → Value → Option Addr → Hp → Hp → Prop} {E0 : WX} {X : Cx} {P : Program} {w : World} {K : Frag} {mg : Str → Option Value} {base : Heap} {k : Nat} {N : List Str} {sc : Scope} {C : Cfg}
variable {F H F' H' : Hp} {σ : L2.St} {env env' : Env} {fp : Nat → Addr → Prop} {pv : Nat → Option V} {M A : Addr → Prop}
/-! ### items and slices -/
def WIx (X : Cx) : R2 := fun x y H Q => ∃ r, IxR X r ∧ r x y H Q
theorem WIx.op : IxR X (WIx X) := fun a b pins s σ H x y v u Q I rx ry ⟨_, h, q⟩ hs => h a b pins s σ H x y v u Q I rx ry q hs
theorem case_idx {a b : Ex} {a' b' : Expr} {pos : Pos} (c : CxOk P w K mg base k N sc E0 X) (hg : badE b' = false) (ha : SE Φ ER E0 X a a') (hb : SE Φ ER E0 X b b') : SE Φ ER E0 X (.idx a b) (.Subscript a' b' pos) := by
  intro env F H σ pv fp Q S P
  unfold ev at P
  refine wE (pe_ix WIx.op WE.pe WE.pe (ix_good hg)) (ha env F H σ pv fp _ S (P.sp0 fun x e1 v F1 H1 fp1 A1 S1 st1 r1 n1 ap1 P1 => ?_))
  refine hb e1 F1 H1 σ pv fp1 _ S1 (P1.sp (M0 := cov fp1) (A := A1) (fun b q => .inl q) (fun b q => .inr q) n1 ap1 fun y e2 u F2 H2 fp2 A2 S2 st2 r2 n2 ap2 nA aA P2 => ?_)
  have r1' := r1.step n1 st2 ap1
  have rv : Rvs F2 H2 σ (or2 A1 A2) [v, u] [x, y] := .cons (fun b q => .inl q) (fun b q => .inr q) (fun b x y => aA b x (.inr y)) r1' (.cons (C := none1) (fun b q => q) (fun _ q => q.elim) (fun _ _ q => q) r2 .nil)
  have nn : Nof F2 H2 (or2 A1 A2) := fun b q => q.elim (nA b) (n2 b)
  have aa : Apart (or2 A1 A2) (cov fp2) := fun b x y => x.elim (fun x => aA b x (.inl y)) fun x => ap2 b x y
  cases s1 : look1 e2 x with
  | none => simp only [s1] at P2; exact P2.elim
  | some d =>
    cases s2 : look1 e2 y with
    | none => simp only [s1, s2] at P2; exact P2.elim
    | some kd =>
      simp only [s1, s2] at P2
      cases e : didx d kd with
      | none => simp only [e] at P2; exact P2.elim
      | some z =>
        simp only [e, Option.map_some, ofO_some] at P2
        obtain ⟨F3, S3, st3, pk⟩ := looks_ok S2 rv nn aa (show looks e2 [x, y] = some [d, kd] by simp [looks, s1, s2])
        have P3 : Post ER (atS E0 σ) σ pv (.ok (.fz z) e2) (RV1 σ) (cov fp2) F3 H2 Q := by
          refine Post.step (P2.less (M' := or2 (cov fp2) (or2 A1 A2)) fun b q => ?_) st3
          rcases q with q | q | q
          · exact .inl (.inl q)
          · exact .inr q
          · exact .inl (.inr q)
        obtain ⟨_, _, e1', p1, p2⟩ := pks2 pk
        cases e1'
        rcases didx_ok (X := X) e with ⟨r, hr, hq⟩ | hd
        · exact ⟨r, hr, hq F3 H2 v u Q S3.sub p1 p2 fun v' h => P3.at S3 (fun b q => q) h⟩
        · refine ⟨_, ix_dict (Nat.lt_of_le_of_lt (by omega) (units_of c)), ?_⟩
          obtain ⟨a, r, ea, g, m⟩ := dget_ok S3.sub p1 p2 hd
          cases r with
          | none => exact m.elim
          | some v' => exact ⟨a, v', ea, g, P3.at S3 (fun b q => q) m⟩
def WO (X : Cx) (e : Option Expr) (σ : L2.St) (H : Hp) (Q : Option Int → Hp → Prop) : Prop := ∃ t, PO X e t ∧ t σ H Q
theorem WO.po {e : Option Expr} : PO X e (WO X e) := ⟨fun pins s σ H Q I ⟨_, h, q⟩ => h.run pins s σ H Q I q⟩
def WSl (X : Cx) : V → Option Int → Option Int → Hp → VK → Prop := fun x lo hi H Q => ∃ r, SlR X r ∧ r x lo hi H Q
theorem WSl.op : SlR X (WSl X) := fun pins s σ H x v vl vu lo hi sl Q I rx hs p1 p2 ⟨_, h, q⟩ => h pins s σ H x v vl vu lo hi sl Q I rx hs p1 p2 q
def SO (Φ : Calls) (ER : Exn → Value → Option Addr → Hp → Hp → Prop) (E0 : WX) (X : Cx) (e : Option Ex) (e' : Option Expr) : Prop := ∀ (env : Env) (F H : Hp) (σ : L2.St) (pv : Nat → Option V) (fp : Nat → Addr → Prop) (Q : Option Int → Hp → Prop), Stt F H σ env fp pv → Post ER (atS E0 σ) σ pv (evo Φ e env) Eq1 (cov fp) F H Q → WO X e' σ H Q
theorem caseO_none : SO Φ ER E0 X none none := by
  intro env F H σ pv fp Q S P
  unfold evo at P
  exact ⟨_, po_none, P none F H fp none1 S (step_ref (A := none1)) rfl (fun _ z => z.elim) (fun _ z => z.elim)⟩
theorem caseO_some {e : Ex} {e' : Expr} (h : SE Φ ER E0 X e e') : SO Φ ER E0 X (some e) (some e') := by
  intro env F H σ pv fp Q S P
  unfold evo at P
  refine ⟨_, po_some WE.pe, h env F H σ pv fp _ S (P.sp0 fun x e1 v F1 H1 fp1 A1 S1 st1 r1 n1 ap1 P1 => ?_)⟩
  split at P1
  · rename_i i
    cases r1
    exact ⟨i, rfl, P1 (some i) F1 H1 fp1 none1 S1 (Step.refl.weak (fun _ q => q) fun b q => q.elim (fun q => .inr (.inl (.inl q))) False.elim) rfl (fun _ z => z.elim) (fun _ z => z.elim)⟩
  · exact P1.elim
theorem case_slc {a : Ex} {lo hi : Option Ex} {a' : Expr} {lo' hi' : Option Expr} {pos p2 : Pos} (ha : SE Φ ER E0 X a a') (hl : SO Φ ER E0 X lo lo') (hh : SO Φ ER E0 X hi hi') : SE Φ ER E0 X (.slc a lo hi) (.Subscript a' (.Slice lo' hi' none p2) pos) := by
  intro env F H σ pv fp Q S P
  unfold ev at P
  refine wE (pe_slice WSl.op WE.pe WO.po WO.po) (ha env F H σ pv fp _ S (P.sp0 fun x e1 v F1 H1 fp1 A1 S1 st1 r1 n1 ap1 P1 => ?_))
  refine hl e1 F1 H1 σ pv fp1 _ S1 (P1.sp (M0 := cov fp1) (A := A1) (fun b q => .inl q) (fun b q => .inr q) n1 ap1 fun l e2 l2 F2 H2 fp2 A2 S2 st2 r2 n2 ap2 nA aA P2 => ?_)
  subst r2
  have r1' := r1.step n1 st2 ap1
  have aA' : Apart A1 (cov fp2) := fun b x y => aA b x (.inl y)
  have P2' := P2.less (M' := or2 (cov fp2) A1) fun b q => by
    rcases q with q | q
    · exact .inl (.inl q)
    · exact .inr q
  refine hh e2 F2 H2 σ pv fp2 _ S2 (P2'.sp (M0 := cov fp2) (A := A1) (fun b q => .inl q) (fun b q => .inr q) nA aA' fun h e3 h2 F3 H3 fp3 A3 S3 st3 r3 n3 ap3 nA3 aA3 P3 => ?_)
  subst r3
  have r1'' := r1'.step nA st3 aA'
  cases s1 : see e3 x with
  | none => simp only [s1] at P3; exact P3.elim
  | some d =>
    simp only [s1] at P3
    cases e : dslc d l2 h2 with
    | none => simp only [e] at P3; exact P3.elim
    | some z =>
      simp only [e, Option.map_some, ofO_some] at P3
      obtain ⟨r, hr, hq⟩ := dslc_ok (X := X) e
      exact ⟨r, hr, hq F3 H3 v Q S3.sub (see_ok S3 r1'' s1) fun v' F4 H4 A4 p => P3.prim S3 (fun b q => .inl (.inl q)) p⟩
/-! ### methods -/
theorem base_plain {o : Expr} {m : Str} {env : PySem.Env} {wh : Sem Value} (h : (match o with | .Call .. => false | _ => true) = true) : attributeBase o m env wh = wh := by
  cases o <;> first | rfl | cases h
theorem slot_base {i : Nat} {o : Expr} {m : Str} {env : PySem.Env} {wh : Sem Value} (h : slotOk N sc i o = true) : attributeBase o m env wh = wh := by
  unfold slotOk at h
  split at h
  · rfl
  · cases h
theorem few1 {e : Expr} {env : PySem.Env} {cpos : Pos} (hg : badE e = false) : ((backTo cpos (starEach [e] env)).all (fun x => !x.1) && (backToKw cpos (keywordEach [] env)).all (fun x => x.1.isSome)
      && decide (([e] : List Expr).length + ([] : List Keyword).length + (if ([] : List Keyword).isEmpty then 0 else 1) < 30)) = true := by
  have : starEach [e] env = (false, eval e env) :: starEach [] env := star_good hg
  rw [this]; rfl
theorem few2 {e f : Expr} {env : PySem.Env} {cpos : Pos} (hg : badE e = false) (hg2 : badE f = false) : ((backTo cpos (starEach [e, f] env)).all (fun x => !x.1) && (backToKw cpos (keywordEach [] env)).all (fun x => x.1.isSome)
      && decide (([e, f] : List Expr).length + ([] : List Keyword).length + (if ([] : List Keyword).isEmpty then 0 else 1) < 30)) = true := by
  have h1 : starEach [e, f] env = (false, eval e env) :: starEach [f] env := star_good hg
  have h2 : starEach [f] env = (false, eval f env) :: starEach [] env := star_good hg2
  rw [h1, h2]; rfl
theorem trees2 {e f : Expr} {env : PySem.Env} {cpos : Pos} (hg : badE e = false) (hg2 : badE f = false) : backTo cpos (starEach [e, f] env) = [(false, eval e env), (false, eval f env)] := by
  have h1 : starEach [e, f] env = (false, eval e env) :: starEach [f] env := star_good hg
  have h2 : starEach [f] env = (false, eval f env) :: starEach [] env := star_good hg2
  rw [h1, h2]; rfl
theorem Pks.get1 {vs : List V} {ds : List D} (h : Pks F H vs ds) : vs.length = ds.length := by
  induction h with
  | nil => rfl
  | cons _ _ ih => rw [List.length_cons, List.length_cons, ih]
theorem case_index {a x : Ex} {a' x' : Expr} {apos cpos : Pos} (hb : (match a' with | .Call .. => false | _ => true) = true) (hl : (apos.endLine == cpos.line) = true) (hg : badE x' = false) (ha : SE Φ ER E0 X a a') (hx : SA Φ ER E0 X [x] [x']) :
    SE Φ ER E0 X (.met .index a [x]) (.Call (.Attribute a' "index" apos) [x'] [] cpos) := by
  intro env F H σ pv fp Q S P
  unfold ev at P
  refine wE (pe_bm PySem.F.plainAttrs_list PySem.F.slot_list_index PySem.F.type_list_index mt_index WE.pe WA.pa (base_plain hb) (few1 hg) hl (star_good hg) rfl) ?_
  refine ha env F H σ pv fp _ S (P.sp0 fun x e1 v F1 H1 fp1 A1 S1 st1 r1 n1 ap1 P1 => ?_)
  split at P1
  · rename_i hf
    have hf' : ∃ ds, see e1 x = some (.lst ds) := by
      cases q : see e1 x with
      | none => rw [q] at hf; cases hf
      | some d => rw [q] at hf; cases d <;> first | exact ⟨_, rfl⟩ | cases hf
    obtain ⟨ds0, hs0⟩ := hf'
    obtain ⟨a0, vs0, ev0, h0, t0⟩ := see_ok S1 r1 hs0
    subst ev0
    refine ⟨.inl ⟨rfl, vs0, .inl h0⟩, ?_⟩
    refine hx e1 F1 H1 σ pv fp1 _ S1 (P1.sp (M0 := cov fp1) (A := A1) (fun b q => .inl q) (fun b q => .inr q) n1 ap1 fun rs e2 vs F2 H2 fp2 A2 S2 st2 r2 n2 ap2 nA aA P2 => ?_)
    have r1' := r1.step n1 st2 ap1
    cases s1 : see e2 x with
    | none => simp only [s1] at P2; exact P2.elim
    | some d =>
      cases s2 : looks e2 rs with
      | none => simp only [s1, s2] at P2; exact P2.elim
      | some ds =>
        simp only [s1, s2] at P2
        cases e : metd .index d ds with
        | none => simp only [e] at P2; exact P2.elim
        | some z =>
          simp only [e, Option.map_some, ofO_some] at P2
          have pkx := see_ok S2 r1' s1
          obtain ⟨F3, S3, st3, pk⟩ := looks_ok S2 r2 n2 ap2 s2
          have pkx' := pkx.mono st3.sub
          unfold metd at e
          split at e
          · rename_i ds y _
            split at e
            · rename_i f
              rw [Bool.and_eq_true] at f
              cases e' : findD y ds with
              | none => rw [e'] at e; cases e
              | some j =>
                rw [e'] at e; cases e
                obtain ⟨a1, vs1, ea, h1, t1⟩ := pkx'
                obtain ⟨yv, rfl, py⟩ := pks1 pk
                obtain ⟨f1, f2⟩ := t1.flatV f.2
                obtain ⟨⟨d', g1, g2⟩, g3⟩ := findD_ok e'
                have ey := py.flat f.1
                refine ⟨a1, vs1, yv, j, d'.toV, ea, rfl, .inl h1, by rw [ey]; exact flatV_of f.1, f1, ?_, by rw [ey]; exact g2, fun m z' hm hz' => ?_, ?_⟩
                · rw [f2, List.getElem?_map, g1]; rfl
                · rw [f2, List.getElem?_map] at hz'
                  cases q : ds[m]? with
                  | none => rw [q] at hz'; cases hz'
                  | some d2 => rw [q] at hz'; cases hz'; rw [ey]; exact g3 m d2 hm q
                · exact (Post.step (P2.less (M' := or2 (cov fp2) A2) fun b q => .inl q) st3).at S3 (fun b q => q) (.int _)
            · cases e
          · cases e
  · exact P1.elim
/-! ### a slot's object changed -/
def setObj (s : SV) (d : D) : SV := match s with
  | .ow n _ => .ow n d
  | .pn n _ => .pn n d
  | s => s
theorem obj_get {i n : Nat} {d : D} (e : obj env i = some (n, d)) : env[i]? = some (.ow n d) ∨ env[i]? = some (.pn n d) := by
  unfold obj at e
  cases q : env[i]? with
  | none => rw [q] at e; cases e
  | some s => rw [q] at e; cases s with
    | un => cases e
    | fz d => cases e
    | ow m d' => cases e; exact .inl rfl
    | pn m d' => cases e; exact .inr rfl
theorem Stt.write {i n : Nat} {s : SV} {d d' : D} {a : Addr} {o : HO} {v : V} (S : Stt F H σ env fp pv) (es : env[i]? = some s) (eo : obj env i = some (n, d)) (ha : fp i a) (hv : σ[i]? = some (some v)) (hn : Own F (upd H a o) n (fp i) v d') :
    Stt F (upd H a o) σ (env.set i (setObj s d')) fp pv ∧ Step (cov fp) F H (cov fp) F (upd H a o) := by
  have na : F a = none := (S.nof a ⟨i, ha⟩).1
  have hi : i < env.length := (List.getElem?_eq_some_iff.1 es).1
  have kind : (∃ m e, s = .ow m e ∧ setObj s d' = .ow n d') ∨ ∃ m e, s = .pn m e ∧ setObj s d' = .pn n d' := by
    rcases obj_get eo with q | q
    · rw [es] at q; cases q; exact .inl ⟨n, d, rfl, rfl⟩
    · rw [es] at q; cases q; exact .inr ⟨n, d, rfl, rfl⟩
  have up : ∀ {b : Addr}, b ≠ a → upd H a o b = H b := fun h => upd_ne h
  refine ⟨⟨S.sub.putR na, by rw [List.length_set]; exact S.len, fun j s' q => ?_, S.dis, fun b q => ?_, fun j m e q => ?_⟩, ⟨Sub.refl F, fun _ _ q => .inl q, fun b u q nb => ?_, fun b q => .inl q, fun b q => ?_⟩⟩
  · rcases set_get q with ⟨rfl, rfl, _⟩ | ⟨ne, q⟩
    · rcases kind with ⟨m, e, _, k2⟩ | ⟨m, e, _, k2⟩
      · rw [k2]; exact ⟨v, by rw [hv]; rfl, hn⟩
      · rw [k2]; exact ⟨v, by rw [hv]; rfl, hn⟩
    · have z := S.sl j s' q
      have same : ∀ b u, fp j b → H b = some u → upd H a o b = some u := fun b u x y => by
        rw [up fun e => ne (S.dis i j b (by rw [e]; exact ha) x)]; exact y
      cases s' with
      | un => trivial
      | fz d => exact z
      | ow n d => obtain ⟨w, e1, h⟩ := z; exact ⟨w, e1, Own.mono (Sub.refl _) (fun _ q => q) same h⟩
      | pn n d => obtain ⟨w, e1, h⟩ := z; exact ⟨w, e1, Own.mono (Sub.refl _) (fun _ q => q) same h⟩
  · obtain ⟨h1, u, h2⟩ := S.nof b q
    refine ⟨h1, ?_⟩
    by_cases e : b = a
    · subst e; exact ⟨o, upd_same⟩
    · exact ⟨u, by rw [up e]; exact h2⟩
  · rcases set_get q with ⟨rfl, z, _⟩ | ⟨_, q⟩
    · rcases kind with ⟨m', e', k1, k2⟩ | ⟨m', e', k1, k2⟩
      · rw [k2] at z; cases z
      · subst k1; exact S.pin i m' e' es
    · exact S.pin j m e q
  · rw [up fun e => nb ⟨i, by rw [e]; exact ha⟩]; exact q
  · by_cases e : b = a
    · subst e; rw [upd_same] at q; cases q
    · rw [up e] at q; exact q
theorem set_obj_eq {i n : Nat} {s : SV} {d : D} (es : env[i]? = some s) (eo : obj env i = some (n, d)) (d' : D) : setObj s d' = (match s with | .ow _ _ => .ow n d' | _ => .pn n d') := by
  rcases obj_get eo with q | q
  · rw [es] at q; cases q; rfl
  · rw [es] at q; cases q; rfl
/-- the address of a slot's object, one level deep -/
theorem root1 {n : Nat} {A : Addr → Prop} {v : V} {d : D} (h : Own F H (n + 1) A v d) (f : d.flat = false) : ∃ a, v = .ref a ∧ A a := by
  cases d with
  | lst ds => obtain ⟨a, vs, e, ha, _⟩ := h; exact ⟨a, e, ha⟩
  | tup ds => obtain ⟨a, vs, e, ha, _⟩ := h; exact ⟨a, e, ha⟩
  | dk ks ds => obtain ⟨a, vs, e, ha, _⟩ := h; exact ⟨a, e, ha⟩
  | dt ks ds => obtain ⟨a, vs, e, ha, _⟩ := h; exact ⟨a, e, ha⟩
  | non => cases f
  | bl b => cases f
  | int b => cases f
  | str b => cases f
end
end Mi
end
section
set_option Elab.async false
set_option linter.all false
set_option maxRecDepth 100000
namespace Mi
open PySem L2
theorem Rs.bind_assoc {α β γ : Type} (o : Rs α) (f : α → Env → Rs β) (g : β → Env → Rs γ) : (o.bind f).bind g = o.bind fun a e => (f a e).bind g := by cases o <;> rfl
section
variable {Φ : Calls} {ER : Exn → Value → Option Addr → Hp → Hp → Prop} {E0 : WX} {X : Cx} {P : Program} {w : World} {K : Frag} {mg : Str → Option Value} {base : Heap} {k : Nat} {N : List Str} {sc : Scope} {C : Cfg}
variable {F H F' H' : Hp} {σ : L2.St} {env env' : Env} {fp : Nat → Addr → Prop} {pv : Nat → Option V} {M A : Addr → Prop}
theorem list_ty {n : Nat} {v : V} {ds : List D} (s : Sub F H) (h : Own F H n A v (.lst ds)) : tyV K "list" v H := by
  have := Own.at s (fun _ _ _ z => z) h
  cases this with
  | lst h1 _ => exact .inl ⟨rfl, _, .inl h1⟩
/-- the end of a mutation -/
theorem mut_end {i : Nat} {e' : Env} {vr : V} {s : SV} {n : Nat} {d d' : D} {a : Addr} {o : HO} {v : V} {z : D} (S : Stt F H σ e' fp pv) (es : e'[i]? = some s) (eo : obj e' i = some (n, d)) (ha : fp i a) (hv : σ[i]? = some (some v))
    {Q : VK} (P : Post ER (atS E0 σ) σ pv (.ok (.fz z) (e'.set i (setObj s d'))) (RV1 σ) (cov fp) F H Q) (hn : Own F (upd H a o) n (fp i) v d') (hz : At F vr z) : Q vr (upd H a o) := by
  obtain ⟨S2, st⟩ := S.write es eo ha hv hn
  exact (P.step st).at S2 (fun b q => q) hz
theorem mut_split {Q : VK} {m : Mut} {i : Nat} {as : List D} {e' : Env} (P : Post ER (atS E0 σ) σ pv (match e'[i]? with
      | some (.ow n d) => ofO (mutate m n d as) e' |>.bind fun p _ => .ok p.1 (e'.set i (.ow n p.2))
      | some (.pn n d) => ofO (mutate m n d as) e' |>.bind fun p _ => .ok p.1 (e'.set i (.pn n p.2))
      | _ => .no) (RV1 σ) M F H Q) : ∃ s n d r d', e'[i]? = some s ∧ obj e' i = some (n, d) ∧ mutate m n d as = some (r, d') ∧ Post ER (atS E0 σ) σ pv (.ok r (e'.set i (setObj s d'))) (RV1 σ) M F H Q := by
  cases q : e'[i]? with
  | none => rw [q] at P; exact P.elim
  | some s =>
    rw [q] at P
    cases s with
    | un => exact P.elim
    | fz d => exact P.elim
    | ow n d =>
      dsimp only at P
      cases h : mutate m n d as with
      | none => rw [h] at P; exact P.elim
      | some p =>
        obtain ⟨r, d'⟩ := p
        rw [h] at P
        exact ⟨_, n, d, r, d', rfl, by simp [obj, q], h, P⟩
    | pn n d =>
      dsimp only at P
      cases h : mutate m n d as with
      | none => rw [h] at P; exact P.elim
      | some p =>
        obtain ⟨r, d'⟩ := p
        rw [h] at P
        exact ⟨_, n, d, r, d', rfl, by simp [obj, q], h, P⟩
theorem atL1 {vs : List V} {d : D} (h : AtL F vs [d]) : ∃ v, vs = [v] ∧ At F v d := by
  cases h with
  | cons h t => cases t; exact ⟨_, rfl, h⟩
theorem fits_list {m : Mut} {o : Option (Nat × D)} (hm : m = .app ∨ m = .pop) (h : mutFits m o = true) : ∃ n ds, o = some (n, .lst ds) := by
  cases o with
  | none => rcases hm with rfl | rfl <;> cases h
  | some p =>
    obtain ⟨n, d⟩ := p
    cases d <;> first | exact ⟨n, _, rfl⟩ | (rcases hm with rfl | rfl <;> cases h)
theorem case_app {i : Nat} {x : Ex} {a' x' : Expr} {apos cpos : Pos} (c : CxOk P w K mg base k N sc E0 X) (hs : slotOk N sc i a' = true) (hl : (apos.endLine == cpos.line) = true) (hg : badE x' = false) (hx : SA Φ ER E0 X [x] [x']) :
    SE Φ ER E0 X (.mut .app i [x]) (.Call (.Attribute a' "append" apos) [x'] [] cpos) := by
  intro env F H σ pv fp Q S P
  unfold ev at P
  refine wE (pe_bm PySem.F.plainAttrs_list PySem.F.slot_list_append PySem.F.type_list_append mt_append (slot_name c hs) WA.pa (slot_base hs) (few1 hg) hl (star_good hg) rfl) ?_
  split at P
  · rename_i hf
    obtain ⟨n0, ds0, e0⟩ := fits_list (.inl rfl) hf
    obtain ⟨v, hv, ho⟩ := S.objn e0
    refine ⟨v, hv, list_ty S.sub ho, ?_⟩
    refine hx env F H σ pv fp _ S (P.sp0 fun rs e1 vs F1 H1 fp1 A1 S1 st1 r1 n1 ap1 P1 => ?_)
    cases e2 : keeps rs e1 with
    | none => simp only [e2] at P1; exact P1.elim
    | some p =>
      obtain ⟨as, e3⟩ := p
      simp only [e2] at P1
      obtain ⟨F2, fp2, S2, st2, t⟩ := keeps_ok S1 r1 n1 ap1 e2
      obtain ⟨s, n, d, r, d', q1, q2, q3, P2⟩ := mut_split (P1.step st2)
      unfold mutate at q3
      split at q3
      · rename_i ds y
        split at q3
        · rename_i hlen
          cases q3
          obtain ⟨yv, rfl, hy⟩ := atL1 t
          obtain ⟨w', hw, ho2⟩ := S2.objn q2
          rw [hv] at hw; cases hw
          obtain ⟨a, vs0, rfl, ha, hh, kk⟩ := ho2
          have kk := kids1.1 kk
          refine ⟨a, vs0, yv, rfl, rfl, hh, by rw [kk.length]; exact hlen, ?_⟩
          exact mut_end S2 q1 q2 ha hv P2 ⟨a, _, rfl, ha, upd_same, kids1.2 (kk.append (.cons hy .nil))⟩ .non
        · cases q3
      · rename_i h; cases h
      · rename_i h; cases h
      · cases q3
  · exact P.elim
theorem case_pop {i : Nat} {a' : Expr} {apos cpos : Pos} (c : CxOk P w K mg base k N sc E0 X) (hs : slotOk N sc i a' = true) (hl : (apos.endLine == cpos.line) = true) :
    SE Φ ER E0 X (.mut .pop i []) (.Call (.Attribute a' "pop" apos) [] [] cpos) := by
  intro env F H σ pv fp Q S P
  unfold ev at P
  refine wE (pe_bm0 PySem.F.plainAttrs_list PySem.F.slot_list_pop PySem.F.type_list_pop mt_pop (slot_name c hs) (slot_base hs) hl) ?_
  split at P
  · rename_i hf
    obtain ⟨n0, ds0, e0⟩ := fits_list (.inr rfl) hf
    obtain ⟨v, hv, ho⟩ := S.objn e0
    refine ⟨v, hv, list_ty S.sub ho, ?_⟩
    unfold evs at P
    simp only [Rs.bind_ok, keeps] at P
    obtain ⟨s, n, d, r, d', q1, q2, q3, P2⟩ := mut_split P
    unfold mutate at q3
    split at q3
    · rename_i h; cases h
    · rename_i ds _ _
      cases e : ds[ds.length - 1]? with
      | none => rw [e] at q3; cases q3
      | some x =>
        rw [e] at q3; cases q3
        obtain ⟨w', hw, ho2⟩ := S.objn q2
        rw [hv] at hw; cases hw
        obtain ⟨a, vs0, rfl, ha, hh, kk⟩ := ho2
        have kk := kids1.1 kk
        obtain ⟨xv, h1, h2⟩ := kk.get e
        refine ⟨a, vs0, xv, rfl, rfl, hh, by rw [kk.length]; exact h1, ?_⟩
        exact mut_end S q1 q2 ha hv P2 ⟨a, _, rfl, ha, upd_same, kids1.2 kk.dropLast⟩ h2
    · rename_i h; cases h
    · cases q3
  · exact P.elim
theorem mutate_setd {n : Nat} {d k v : D} {p : RV × D} (h : mutate .setd n d [k, v] = some p) : n = 1 ∧ dsize d < lim ∧ ((∃ x, dget d k = some (some x) ∧ p = (.fz x, d)) ∨ ∃ d', dget d k = some none ∧ dput d k v = some d' ∧ p = (.fz v, d')) := by
  cases n with
  | zero => simp [mutate] at h
  | succ n =>
    cases n with
    | succ n => simp [mutate] at h
    | zero =>
      simp only [mutate] at h
      split at h
      · rename_i hl
        refine ⟨rfl, hl, ?_⟩
        cases e : dget d k with
        | none => rw [e] at h; cases h
        | some o =>
          rw [e] at h
          cases o with
          | some x => cases h; exact .inl ⟨x, rfl, rfl⟩
          | none =>
            dsimp only at h
            cases e2 : dput d k v with
            | none => rw [e2] at h; cases h
            | some d' => rw [e2] at h; cases h; exact .inr ⟨d', rfl, rfl, rfl⟩
      · cases h
theorem isD_of {n : Nat} {v : V} {d : D} (s : Sub F H) (h : Own F H n A v d) (hd : mutFits .setd (some (n, d)) = true) : ∃ a, v = .ref a ∧ IsD H a := by
  have := Own.at s (fun _ _ _ z => z) h
  cases this with
  | dk h1 _ => exact ⟨_, rfl, .inl ⟨_, .inl h1⟩⟩
  | dt h1 _ => exact ⟨_, rfl, .inr ⟨_, .inl h1⟩⟩
  | _ => cases hd
theorem case_setd {i : Nat} {x y : Ex} {a' x' y' : Expr} {apos cpos : Pos} (c : CxOk P w K mg base k N sc E0 X) (hs : slotOk N sc i a' = true) (hl : (apos.endLine == cpos.line) = true) (hg : badE x' = false) (hg2 : badE y' = false) (hx : SE Φ ER E0 X x x') (hy : SE Φ ER E0 X y y') :
    SE Φ ER E0 X (.mut .setd i [x, y]) (.Call (.Attribute a' "setdefault" apos) [x', y'] [] cpos) := by
  intro env F H σ pv fp Q S P
  unfold ev at P
  refine wE (pe_dsetdA (Nat.lt_of_le_of_lt (by omega) (units_of c)) (slot_name c hs) WE.pe WE.pe ⟨slot_base hs, few2 hg hg2, hl, trees2 hg hg2⟩) ?_
  split at P
  · rename_i hf
    cases e0 : obj env i with
    | none => rw [e0] at hf; cases hf
    | some p =>
    obtain ⟨n0, d0⟩ := p
    rw [e0] at hf
    obtain ⟨v, hv, ho⟩ := S.objn e0
    obtain ⟨a0, rfl, hD⟩ := isD_of S.sub ho (by cases d0 <;> first | rfl | cases hf)
    refine ⟨_, hv, a0, rfl, hD, ?_⟩
    unfold evs at P
    rw [Rs.bind_assoc] at P
    refine hx env F H σ pv fp _ S (P.sp0 fun r e1 u F1 H1 fp1 A1 S1 st1 r1 n1 ap1 P1 => ?_)
    rw [Rs.bind_assoc] at P1
    unfold evs at P1
    rw [Rs.bind_assoc] at P1
    refine hy e1 F1 H1 σ pv fp1 _ S1 (P1.sp (M0 := cov fp1) (A := A1) (fun b q => .inl q) (fun b q => .inr q) n1 ap1 fun r' e2 u2 F2 H2 fp2 A2 S2 st2 r2 n2 ap2 nA aA P2 => ?_)
    unfold evs at P2
    simp only [Rs.bind_ok] at P2
    have r1' := r1.step n1 st2 ap1
    have rv : Rvs F2 H2 σ (or2 A1 A2) [u, u2] [r, r'] := .cons (fun b q => .inl q) (fun b q => .inr q) (fun b x y => aA b x (.inr y)) r1' (.cons (C := none1) (fun b q => q) (fun _ q => q.elim) (fun _ _ q => q) r2 .nil)
    have nn : Nof F2 H2 (or2 A1 A2) := fun b q => q.elim (nA b) (n2 b)
    have aa : Apart (or2 A1 A2) (cov fp2) := fun b x y => x.elim (fun x => aA b x (.inl y)) fun x => ap2 b x y
    cases ek : keeps [r, r'] e2 with
    | none => simp only [ek] at P2; exact P2.elim
    | some p =>
      obtain ⟨as, e3⟩ := p
      simp only [ek] at P2
      obtain ⟨F3, fp3, S3, st3, t⟩ := keeps_ok S2 rv nn aa ek
      have P3 := Post.step (P2.less (M' := or2 (cov fp2) (or2 A1 A2)) fun b q => by
        rcases q with q | q | q
        · exact .inl (.inl q)
        · exact .inr q
        · exact .inl (.inr q)) st3
      obtain ⟨s, n, d, rr, d', q1, q2, q3, P4⟩ := mut_split P3
      have t2 : ∃ d1 d2, as = [d1, d2] ∧ At F3 u d1 ∧ At F3 u2 d2 := by
        cases t with
        | cons h1 t => cases t with
          | cons h2 t => cases t; exact ⟨_, _, rfl, h1, h2⟩
      obtain ⟨d1, d2, rfl, h1, h2⟩ := t2
      obtain ⟨w', hw, ho2⟩ := S3.objn q2
      rw [hv] at hw; cases hw
      have same : ∀ {x : D}, setObj s d = s → Post ER (atS E0 σ) σ pv (.ok (.fz x) (e3.set i (setObj s d))) (RV1 σ) (cov fp3) F3 H2 Q → ∀ {v : V}, At F3 v x → Q v H2 := fun {x} es P v h => by
        rw [es] at P
        have : e3.set i s = e3 := by
          refine List.ext_getElem? fun j => ?_
          by_cases e : i = j
          · subst e
            rw [List.getElem?_set_self (List.getElem?_eq_some_iff.1 q1).1, q1]
          · rw [List.getElem?_set_ne e]
        rw [this] at P
        exact P.at S3 (fun b q => q) h
      have kind : setObj s d = s := by
        rcases obj_get q2 with q | q
        · rw [q1] at q; cases q; rfl
        · rw [q1] at q; cases q; rfl
      obtain ⟨rfl, hlen, hcase⟩ := mutate_setd q3
      cases d with
      | dk ks ds =>
        obtain ⟨a, kvs, ea, ha, hh, rfl, kk⟩ := ho2
        cases ea
        have kk := kids1.1 kk
        cases ekey : d1.key with
        | none =>
          rcases hcase with ⟨x, eg, _⟩ | ⟨d', eg, _⟩
          · simp [dget, ekey] at eg
          · simp [dget, ekey] at eg
        | some key =>
          refine .inl ⟨kvs, key, hh, key_of_at h1 ekey, by simpa [dsize] using hlen, fun v' e1 => ?_, fun e1 => ?_⟩
          · rcases hcase with ⟨x, eg, ep⟩ | ⟨d', eg, _⟩
            · simp only [dget, ekey, Option.map_some, Option.some.injEq] at eg
              cases ep
              obtain ⟨v2, e2, h3⟩ := look_some kk eg
              rw [e1] at e2; cases e2
              exact same kind P4 h3
            · simp only [dget, ekey, Option.map_some, Option.some.injEq] at eg
              rw [look_none kk eg] at e1; cases e1
          · rcases hcase with ⟨x, eg, ep⟩ | ⟨d', eg, eput, ep⟩
            · simp only [dget, ekey, Option.map_some, Option.some.injEq] at eg
              obtain ⟨v2, e2, h3⟩ := look_some kk eg
              rw [e1] at e2; cases e2
            · cases ep
              unfold dput at eput
              dsimp only at eput
              split at eput
              · rw [ekey] at eput
                cases eput
                obtain ⟨z1, z2⟩ := put_at (k := key) h2 kk
                refine mut_end S3 q1 q2 ha hv P4 ⟨a0, _, rfl, ha, upd_same, ?_, kids1.2 z2⟩ h2
                rw [z1]
              · cases eput
      | dt ks ds =>
        obtain ⟨a, kvs, ea, ha, hh, rfl, kk⟩ := ho2
        cases ea
        have kk := kids1.1 kk
        cases ekey : d1.keys with
        | none =>
          rcases hcase with ⟨x, eg, _⟩ | ⟨d', eg, _⟩
          · simp [dget, ekey] at eg
          · simp [dget, ekey] at eg
        | some key =>
          obtain ⟨b, rfl, hb⟩ := dkeys_at (Pk.of_at S3.sub h1) ekey
          refine .inr ⟨kvs, key, b, hh, rfl, S3.sub _ _ hb, by simpa [dsize] using hlen, fun v' e1 => ?_, fun e1 => ?_⟩
          · rcases hcase with ⟨x, eg, ep⟩ | ⟨d', eg, _⟩
            · simp only [dget, ekey, Option.map_some, Option.some.injEq] at eg
              cases ep
              obtain ⟨v2, e2, h3⟩ := look_some kk eg
              rw [e1] at e2; cases e2
              exact same kind P4 h3
            · simp only [dget, ekey, Option.map_some, Option.some.injEq] at eg
              rw [look_none kk eg] at e1; cases e1
          · rcases hcase with ⟨x, eg, ep⟩ | ⟨d', eg, eput, ep⟩
            · simp only [dget, ekey, Option.map_some, Option.some.injEq] at eg
              obtain ⟨v2, e2, h3⟩ := look_some kk eg
              rw [e1] at e2; cases e2
            · cases ep
              unfold dput at eput
              dsimp only at eput
              split at eput
              · rw [ekey] at eput
                cases eput
                obtain ⟨z1, z2⟩ := put_at (k := key) h2 kk
                refine mut_end S3 q1 q2 ha hv P4 ⟨a0, _, rfl, ha, upd_same, ?_, kids1.2 z2⟩ h2
                rw [z1]
              · cases eput
      | lst ds => rcases hcase with ⟨x, eg, _⟩ | ⟨d', eg, _⟩ <;> cases eg
      | tup ds => rcases hcase with ⟨x, eg, _⟩ | ⟨d', eg, _⟩ <;> cases eg
      | non => rcases hcase with ⟨x, eg, _⟩ | ⟨d', eg, _⟩ <;> cases eg
      | bl b => rcases hcase with ⟨x, eg, _⟩ | ⟨d', eg, _⟩ <;> cases eg
      | int b => rcases hcase with ⟨x, eg, _⟩ | ⟨d', eg, _⟩ <;> cases eg
      | str b => rcases hcase with ⟨x, eg, _⟩ | ⟨d', eg, _⟩ <;> cases eg
  · exact P.elim
end
end Mi
end
section
set_option Elab.async false
set_option linter.all false
set_option maxRecDepth 100000
namespace Mi
open PySem L2
/-! ### what a loop walks -/
def slotV (σ : L2.St) (j : Nat) : Option V := (σ[j]?).join
def Walks (F : Hp) (σ0 : L2.St) (J : It) (p : List D × Option (Nat × SV)) : Prop := ∀ (i : Nat) (F' H' : Hp) (σ' : L2.St) (env' : Env) (fp' : Nat → Addr → Prop) (pv' : Nat → Option V), Sub F F' → Stt F' H' σ' env' fp' pv' → held p.2 env' = true →
  (∀ j s, p.2 = some (j, s) → pv' j = slotV σ0 j) → (p.1[i]? = none → J.stop i H') ∧ ∀ d, p.1[i]? = some d → J.go i H' ∧ ∀ x H'', J.yld i H' x H'' → ∃ F'', Step none1 F' H' none1 F'' H'' ∧ Sub F'' H'' ∧ At F'' x d
section
variable {K : Frag} {F F' H H' : Hp} {σ σ0 : L2.St} {env env' : Env} {fp : Nat → Addr → Prop} {pv : Nat → Option V} {M A : Addr → Prop}
/-- where a walked list stands at each turn -/
def Stays (F : Hp) (σ0 : L2.St) (a : Addr) (ds : List D) (lk : Option (Nat × SV)) : Prop := ∀ (F' H' : Hp) (σ' : L2.St) (env' : Env) (fp' : Nat → Addr → Prop) (pv' : Nat → Option V), Sub F F' → Stt F' H' σ' env' fp' pv' → held lk env' = true →
  (∀ j s, lk = some (j, s) → pv' j = slotV σ0 j) → ∃ vs, Rd H' a (.lst vs) ∧ AtL F' vs ds
theorem rd_inj {a : Addr} {vs ws : List V} (h : Rd H a (.lst vs)) (h' : Rd H a (.lst ws)) : vs = ws := by
  rcases h with h | ⟨o, h⟩
  · rcases h' with h' | ⟨o', h'⟩
    · rw [h] at h'; cases h'; rfl
    · rw [h] at h'; cases h'
  · rcases h' with h' | ⟨o', h'⟩
    · rw [h] at h'; cases h'
    · rw [h] at h'; cases h'; rfl
theorem stays_fz {a : Addr} {vs : List V} {ds : List D} (h : Rd F a (.lst vs)) (t : AtL F vs ds) : Stays F σ0 a ds none := fun F' H' σ' env' fp' pv' s S _ _ => ⟨vs, Rd.mono (s.trans S.sub) h, t.mono s⟩
theorem stays_vw {a : Addr} {ds : List D} {j : Nat} {s : SV} (hs : pinS s = .pn 1 (.lst ds)) (hv : slotV σ0 j = some (.ref a)) : Stays F σ0 a ds (some (j, s)) := fun F' H' σ' env' fp' pv' _ S hh hp => by
  unfold held at hh
  have e : env'[j]? = some (.pn 1 (.lst ds)) := by rw [← hs]; exact eq_of_beq hh
  obtain ⟨w, hw, a', vs, rfl, _, h1, k⟩ := S.pinn e
  have p := S.pin j 1 _ e
  rw [hp j s rfl, hv, hw] at p
  cases p
  exact ⟨vs, .inl h1, kids1.1 k⟩
theorem walks_list {a : Addr} {ds : List D} {lk : Option (Nat × SV)} (h : Stays F σ0 a ds lk) : Walks F σ0 (Itl K a) (ds, lk) := by
  intro i F' H' σ' env' fp' pv' s S hh hp
  obtain ⟨vs, h1, t⟩ := h F' H' σ' env' fp' pv' s S hh hp
  refine ⟨fun e => ⟨vs, .inl h1, ?_⟩, fun d e => ?_⟩
  · rw [t.length]; exact List.getElem?_eq_none_iff.1 e
  · obtain ⟨v, e1, hv⟩ := t.get e
    refine ⟨⟨vs, v, .inl h1, e1⟩, fun x H'' ⟨e2, e3⟩ => ?_⟩
    subst e2
    have := e3 vs (.inl h1)
    rw [e1] at this; cases this
    exact ⟨F', step_same (M := none1), S.sub, hv⟩
theorem walks_tup {a : Addr} {vs : List V} {ds : List D} (h : F a = some (.tup vs)) (t : AtL F vs ds) : Walks F σ0 (Itt K a) (ds, none) := by
  intro i F' H' σ' env' fp' pv' s S hh hp
  have h1 : H' a = some (.tup vs) := (s.trans S.sub) _ _ h
  refine ⟨fun e => ⟨vs, SqT.of h1, ?_⟩, fun d e => ?_⟩
  · rw [t.length]; exact List.getElem?_eq_none_iff.1 e
  · obtain ⟨v, e1, hv⟩ := t.get e
    refine ⟨⟨vs, v, SqT.of h1, e1⟩, fun x H'' ⟨e2, e3⟩ => ?_⟩
    subst e2
    have := e3 vs (SqT.of h1)
    rw [e1] at this; cases this
    exact ⟨F', step_same (M := none1), S.sub, hv.mono s⟩
theorem walks_str {x : Str} : Walks F σ0 (Its x) (x.cps.toList.map (fun c => D.str ⟨#[c]⟩), none) := by
  intro i F' H' σ' env' fp' pv' s S hh hp
  refine ⟨fun e => ?_, fun d e => ?_⟩
  · have := List.getElem?_eq_none_iff.1 e
    show x.cps.size ≤ i
    simpa using this
  · rw [List.getElem?_map] at e
    cases q : x.cps.toList[i]? with
    | none => rw [q] at e; cases e
    | some c =>
      rw [q] at e; cases e
      refine ⟨?_, fun v H'' ⟨e2, c', e3, e4⟩ => ?_⟩
      · have := (List.getElem?_eq_some_iff.1 q).1
        show i < x.cps.size
        simpa using this
      · subst e2
        have e5 : x.cps.toList[i]? = some c' := by rw [Array.getElem?_toList]; exact e3
        rw [q] at e5; cases e5
        subst e4
        exact ⟨F', step_same (M := none1), S.sub, .str _⟩
theorem walks_range {lo hi : Int} : Walks F σ0 (Itr lo (hi - lo).toNat) (rngD lo hi, none) := by
  intro i F' H' σ' env' fp' pv' s S hh hp
  have e0 : ∀ i, (rngD lo hi)[i]? = if i < (hi - lo).toNat then some (.int (lo + i)) else none := fun i => by
    unfold rngD
    rw [List.getElem?_map]
    by_cases c : i < (hi - lo).toNat
    · rw [List.getElem?_range c, if_pos c]; rfl
    · rw [if_neg c, List.getElem?_eq_none (by simpa using c)]; rfl
  refine ⟨fun e => ?_, fun d e => ?_⟩
  · simp only [e0] at e
    by_cases c : i < (hi - lo).toNat
    · rw [if_pos c] at e; cases e
    · exact Nat.le_of_not_lt c
  · simp only [e0] at e
    by_cases c : i < (hi - lo).toNat
    · rw [if_pos c] at e; cases e
      exact ⟨c, fun x H'' ⟨e2, e3⟩ => by subst e2; subst e3; exact ⟨F', step_same (M := none1), S.sub, .int _⟩⟩
    · rw [if_neg c] at e; cases e
theorem enum_get : ∀ (ds : List D) (k i : Nat), (enumD k ds)[i]? = (ds[i]?).map fun d => .tup [.int ((k + i : Nat) : Int), d]
  | [], _, _ => by simp [enumD]
  | d :: ds, k, 0 => by simp [enumD]
  | d :: ds, k, i + 1 => by
    rw [enumD, List.getElem?_cons_succ, List.getElem?_cons_succ, enum_get ds (k + 1) i]
    have : k + 1 + i = k + (i + 1) := by omega
    rw [this]
theorem pair_new {T : Addr} {x : V} {d : D} {i : Int} (hT : H T = none) (s : Sub F H) (hx : At F x d) : Step none1 F H none1 (upd F T (.tup [.int i, x])) (upd H T (.tup [.int i, x])) ∧ Sub (upd F T (.tup [.int i, x])) (upd H T (.tup [.int i, x])) ∧ At (upd F T (.tup [.int i, x])) (.ref T) (.tup [.int i, d]) :=
  ⟨step_data hT s, s.put2, .tup upd_same (.cons (.int _) (.cons (hx.mono (Sub.put1 (s.no hT))) .nil))⟩
theorem walks_enum {a : Addr} {ds : List D} {lk : Option (Nat × SV)} (h : Stays F σ0 a ds lk) : Walks F σ0 (Ite K a) (enumD 0 ds, lk) := by
  intro i F' H' σ' env' fp' pv' s S hh hp
  obtain ⟨vs, h1, t⟩ := h F' H' σ' env' fp' pv' s S hh hp
  simp only [enum_get]
  refine ⟨fun e => ⟨vs, .inl h1, ?_⟩, fun d e => ?_⟩
  · rw [t.length]
    cases q : ds[i]? with
    | none => exact List.getElem?_eq_none_iff.1 q
    | some d => rw [q] at e; cases e
  · cases q : ds[i]? with
    | none => rw [q] at e; cases e
    | some d0 =>
      rw [q] at e; cases e
      obtain ⟨v, e1, hv⟩ := t.get q
      refine ⟨⟨vs, v, .inl h1, e1⟩, fun x H'' ⟨T, x', e2, hT, e3, e4⟩ => ?_⟩
      have := e4 vs (.inl h1)
      rw [e1] at this; cases this
      subst e2; subst e3
      have : ((0 + i : Nat) : Int) = (i : Int) := by omega
      rw [this]
      exact ⟨_, pair_new hT S.sub hv⟩
end
/-! ### enumerate of a tuple -/
section
variable {P : Program} {w : World} {K : Frag}
def IteT (K : Frag) (a : Addr) : It :=
  ⟨fun i H => ∃ (xs : List V) (x : V), SqT K H a xs ∧ xs[i]? = some x, fun i H v H' => ∃ T x, v = .ref T ∧ H T = none ∧ H' = upd H T (.tup [.int (i : Nat), x]) ∧ ∀ xs, SqT K H a xs → xs[i]? = some x, fun i H => ∃ xs : List V, SqT K H a xs ∧ xs.length ≤ i⟩
theorem walks_enumT {F : Hp} {σ0 : L2.St} {a : Addr} {vs : List V} {ds : List D} (h : F a = some (.tup vs)) (t : AtL F vs ds) : Walks F σ0 (IteT K a) (enumD 0 ds, none) := by
  intro i F' H' σ' env' fp' pv' s S hh hp
  have h1 : H' a = some (.tup vs) := (s.trans S.sub) _ _ h
  simp only [enum_get]
  refine ⟨fun e => ⟨vs, SqT.of h1, ?_⟩, fun d e => ?_⟩
  · rw [t.length]
    cases q : ds[i]? with
    | none => exact List.getElem?_eq_none_iff.1 q
    | some d => rw [q] at e; cases e
  · cases q : ds[i]? with
    | none => rw [q] at e; cases e
    | some d0 =>
      rw [q] at e; cases e
      obtain ⟨v, e1, hv⟩ := t.get q
      refine ⟨⟨vs, v, SqT.of h1, e1⟩, fun x H'' ⟨T, x', e2, hT, e3, e4⟩ => ?_⟩
      have := e4 vs (SqT.of h1)
      rw [e1] at this; cases this
      subst e2; subst e3
      have : ((0 + i : Nat) : Int) = (i : Int) := by omega
      rw [this]
      exact ⟨_, pair_new hT S.sub (hv.mono s)⟩
end
end Mi
namespace Mi
open PySem L2 PySem.Spec PyProof.Rows
set_option maxHeartbeats 1000000 in
theorem meets_enumerate_new1B {v : Value} {o : Obj} {H : Heap → Prop} (B : Begins v o H) :
    Meets (Builtin.«enumerate.__new__» ⟨[.type "enumerate", v], []⟩) (fun _ R s => H s.heap ∧
      R (.ok (.ret (.ref (s.heap.push o).objs.size))) { s with heap := (s.heap.push o).push { cls := .type "enumerate", data := .fields #[.none, .bool false, .ref s.heap.objs.size, rawInt 0, .none, .none] } }) :=
  .of_wp fun prog w A R s h => by
    obtain ⟨hp, g, d, tk, os⟩ := s; obtain ⟨h1, h⟩ := h
    have hsub := sub_enumerate
    have q1 : ∀ {A' : Around} {E : Value → Shared → Prop} {Q : Value → Shared → Prop}, Q (.ref hp.objs.size) ⟨hp.push o, g, d, tk, os⟩ → wpAny (model prog w) A' (pyIter v) Q E ⟨hp, g, d, tk, os⟩ :=
      fun q => B.iter prog w _ _ ⟨hp, g, d, tk, os⟩ _ h1 q
    wp_walk using q1
    refine wpAny_stack_any fun st => wpAny_pure ?_
    split
    · rename_i c _ _ _ _ _
      cases (c == Value.type "enumerate")
      · wp_walk using q1
        exact ⟨_, rfl, h⟩
      · wp_walk using q1
        exact ⟨_, rfl, h⟩
    · wp_walk using q1
      exact ⟨_, rfl, h⟩
end Mi
end
section
set_option Elab.async false
set_option linter.all false
set_option maxRecDepth 100000
namespace Mi
open PySem L2 PySem.Spec PyProof.Rows
theorem turn_enumT {P : Program} {w : World} {K : Frag} {elts : List Expr} {kk : Nat} {tpos : Pos} (a e it : Addr) :
    Turn P w K (.Tuple elts kk tpos) (IteT K a) [e, it] e (fun i h => (∃ old, IsEnum h e it ((i : Nat) : Int) old) ∧ h.IsTupleIter it a i ∧ e ≠ it) where
  mem := by simp
  obj := fun i h st b hb => by
    obtain ⟨⟨old, he⟩, ⟨o, ho, hc, hd⟩, _⟩ := st
    have e' : b = e ∨ b = it := by simpa using hb
    rcases e' with z | z
    · rw [z]; exact ⟨_, he, fun v q => nomatch q⟩
    · rw [z]; exact ⟨o, ho, fun v q => by rw [hd] at q; cases q⟩
  keep := fun i h h' st k => let ⟨⟨old, he⟩, hi, hne⟩ := st; ⟨⟨old, k e (by simp) _ he⟩, hi.at fun o q => k it (by simp) o q, hne⟩
  item := by
    intro X hP hw hK hc i pins s σ H E I hf st hg
    subst hP hw hK
    obtain ⟨⟨old, he⟩, hit, hne⟩ := st
    obtain ⟨xs, x, hq, hx⟩ := hg
    obtain ⟨its, rv, p, hz⟩ := I.tuple hq
    obtain ⟨u, hu, ru⟩ := rv.get hx
    have hel : e < s.heap.objs.size := Heap.lt_size he
    have hil : it < s.heap.objs.size := by obtain ⟨_, q, _⟩ := hit; exact Heap.lt_size q
    have hai : a ≠ it := by
      obtain ⟨o1, h1, c1, _⟩ := hit
      obtain ⟨o2, h2, c2, _⟩ := p
      rintro rfl
      rw [h1] at h2; cases h2
      rw [c1] at c2
      exact absurd c2 (by simp)
    have hae : a ≠ e := by
      obtain ⟨o2, h2, c2, _⟩ := p
      rintro rfl
      have he' : s.heap.get? a = some _ := he
      rw [he'] at h2; cases h2
      exact absurd c2 (by simp)
    have hlt : i < its.toArray.size := by
      have := (List.getElem?_eq_some_iff.1 hu).1
      simpa using this
    refine wpAny_pyNext_enum_itemC (Draws.tuple (A := X.A.in1) (I.ok.hd hc) it a hai its.toArray) he ⟨hit, p⟩ hlt hne (by simp [hne, Ne.symm hae]) fun x' h' tk hPx ho hst' hT hsz hk => ?_
    have : x' = u := by
      have z : its.toArray[i]? = some x' := hPx
      have z2 : its.toArray[i]? = some u := by simpa using hu
      rw [z] at z2; cases z2; rfl
    subst this
    refine ⟨_, rfl, wpAny_letOwnedTupleGo_enum (s := { s with heap := h', toks := tk + 1 }) ho fun h'' he' sb => ?_⟩
    have hT2 : h''.get? s.heap.objs.size = some { cls := .type "tuple", data := .seq #[.int i tk, x'] } := (sb.2 _ (Nat.ne_of_gt hel)).trans hT
    have new : ObjOk X.prog X.w (upd H s.heap.objs.size (.tup [.int (i : Nat), x])) h'' s.heap.objs.size (.tup [.int (i : Nat), x]) :=
      ⟨by show 2 ≤ sizeLine; decide, [.int i tk, x'], .cons ⟨_, rfl⟩ (.cons ru .nil), ⟨_, hT2, rfl, _, rfl⟩⟩
    have I1 : Inv X pins σ (upd H s.heap.objs.size (.tup [.int (i : Nat), x])) { s with heap := h'', toks := tk + 1 } :=
      I.turnedNew (ch := [e, it]) (fun b ob hb q => (sb.2 b (fun z => hb (by simp [z]))).trans (hk b ob (fun z => hb (by simp [z])) (fun z => hb (by simp [z])) q)) hf (Nat.le_refl _) new
    refine ⟨.ref s.heap.objs.size, _, I1, rfl, ⟨_, x, rfl, I.hok.fresh (Nat.le_refl _), rfl, fun ys hy => by rw [I.tuple_inj hy hq]; exact hx⟩, ⟨⟨x', ?_⟩, hst'.1.at fun o q => (sb.2 it (Ne.symm hne)).trans q, hne⟩, fun b hb => ?_⟩
    · have e1 : ((i + 1 : Nat) : Int) = (i : Int) + 1 := by omega
      rw [e1]; exact he'
    · have hb' : b < s.heap.objs.size := by
        have e' : b = e ∨ b = it := by simpa using hb
        rcases e' with z | z
        · rw [z]; exact hel
        · rw [z]; exact hil
      rw [upd_ne (Nat.ne_of_lt hb')]
      exact (hf b hb).1
  done := by
    intro X hP hw hK hc i pins s σ H E I hf st hg
    subst hP hw hK
    obtain ⟨⟨old, he⟩, hit, hne⟩ := st
    obtain ⟨xs, hq, hx⟩ := hg
    obtain ⟨its, rv, p, hz⟩ := I.tuple hq
    obtain ⟨f0, f1, f2, f3, f4, f5⟩ := hf it (by simp)
    have hl := rv.length
    have hT : s.TypeIs (.ref e) "enumerate" := ⟨_, he, rfl⟩
    unfold pyNext
    refine wpAny_bind (wpAny_attempt (wpAny_callSpecial?_slot (name := Str.ofString "__next__") hT F.slot_enumerate_next
      (wpAny_call_entry F.slot_enumerate_next hT F.entry_enumerate_next ?_ (F.args_enumerate_next_1 _))))
    show wpAny _ _ (field (.ref e) 2 >>= _) _ _ _
    refine wpAny_bind (wpAny_field he rfl (x := .ref it) rfl ?_)
    refine wpAny_bind (wpAny_nextOf_tuple_end (A := X.A.in1) (I.ok.hd hc) hit (show s.heap.IsTuple a its.toArray from p) (by simp; omega) fun h' x he' hx' => ?_)
    obtain ⟨o, ho, hc'⟩ := hx'
    refine wpAny_bind (wpAny_isInstance (T := "StopIteration") (b := true) ⟨o, ho, hc'⟩ isSubtype_stop ?_)
    exact wpAny_pure ⟨rfl, I.turned (t' := s.toks) (fun b o hb q => he' b o hb q) f0 f1 f3 f4 f5⟩
  self := fun A i s Q E st h => let ⟨⟨_, he⟩, _⟩ := st; wpAny_pyIter_enum he h
section
variable {prog : Program} {w : World} {A : Around} {E : Value → Shared → Prop} {s : Shared}
theorem call_enumerate_tuple {l : Addr} {items : Array Value} {Q : Value → Shared → Prop} (hL : s.heap.IsTuple l items)
    (h : ∀ h', IsEnum h' (s.heap.objs.size + 1) s.heap.objs.size 0 .none → h'.IsTupleIter s.heap.objs.size l 0 → h'.objs.size = s.heap.objs.size + 2 →
      (∀ b o, s.heap.get? b = some o → h'.get? b = some o) → Q (.ref (s.heap.objs.size + 1)) { s with heap := h' }) :
    wpAny (model prog w) A (call (.type "enumerate") [.ref l]) Q E s := by
  refine callType_new F.called_enumerate (by decide) (F.typeCall_enumerate_1 _) (F.newCall_enumerate_1 _) (fun obj => F.args_object_init_2 obj _) F.entry_enumerate_new
    (meets_enumerate_new1B (begins_tuple l items)) ⟨hL, ?_⟩
  have hz : (s.heap.push { cls := .type "tuple_iterator", data := .fields #[.ref l, .int 0 0] }).objs.size = s.heap.objs.size + 1 := Heap.size_push ..
  show _ ∧ _
  rw [hz]
  have he : IsEnum ((s.heap.push { cls := .type "tuple_iterator", data := .fields #[.ref l, .int 0 0] }).push
      { cls := .type "enumerate", data := .fields #[.none, .bool false, .ref s.heap.objs.size, rawInt 0, .none, .none] }) (s.heap.objs.size + 1) s.heap.objs.size 0 .none := by
    have := Heap.get?_push_size (s.heap.push { cls := .type "tuple_iterator", data := .fields #[.ref l, .int 0 0] })
      (o := { cls := .type "enumerate", data := .fields #[.none, .bool false, .ref s.heap.objs.size, rawInt 0, .none, .none] }) rfl
    rw [hz] at this; exact this
  refine ⟨⟨_, he, rfl⟩, h _ he ⟨_, Heap.get?_push_of_some _ (Heap.get?_push_size _ rfl), rfl, rfl⟩ (by rw [Heap.size_push, hz]) fun b o x => Heap.get?_push_of_some _ (Heap.get?_push_of_some _ x)⟩
end
def iEnumT (K : Frag) (ta : TA) : TI := fun σ H R => ta σ H fun vs H1 => ∃ a xs, vs = [.ref a] ∧ SqT K H1 a xs ∧ R (IteT K a) H1
theorem pi_enumT {X : Cx} {e : Expr} {ta : TA} {p pos tpos : Pos} {elts : List Expr} {kk : Nat} (hg : Gl X "enumerate") (hm : X.mg "enumerate" = none) (ha : PA X [e] ta) (hs : starEach [e] X.env = [(false, eval e X.env)]) :
    PI X (.Tuple elts kk tpos) (.Call (.Name "enumerate" p) [e] [] pos) (iEnumT X.K ta) := by
  refine ⟨fun pins s σ H R I h => ?_⟩
  refine Call_ (ld_blt I hg hm boot_enumerate (PyProof.Rows.callWith_type1 (thn (ha.run pos pins s σ H _ I h) fun us s1 ⟨vs, H1, I1, r1, q1⟩ => ?_) hs rfl))
  obtain ⟨a, xs, ex, hq, q⟩ := q1
  subst ex
  cases r1 with
  | cons r rr =>
    cases rr
    cases r
    obtain ⟨its, rv, p', hz⟩ := I1.tuple hq
    refine call_enumerate_tuple (show s1.heap.IsTuple a its.toArray from p') fun h' he hit hsz hk => wpAny_pyIter_enum he ?_
    have I2 : Inv X pins σ H1 { s1 with heap := h' } := I1.kept (t' := s1.toks) hk
    refine ⟨s1.heap.objs.size + 1, [s1.heap.objs.size + 1, s1.heap.objs.size], _, _, H1, rfl, I2, turn_enumT a (s1.heap.objs.size + 1) s1.heap.objs.size, ⟨⟨.none, he⟩, hit, Nat.succ_ne_self _⟩, fun b hb => ?_, q⟩
    have e' : b = s1.heap.objs.size + 1 ∨ b = s1.heap.objs.size := by simpa using hb
    have hle : s1.heap.objs.size ≤ b := by
      rcases e' with z | z
      · rw [z]; exact Nat.le_add_right _ _
      · rw [z]; exact Nat.le_refl _
    exact I1.fpOk hle (I1.hok.fresh hle)
end Mi
end
section
set_option Elab.async false
set_option linter.all false
set_option maxRecDepth 100000
namespace Mi
open PySem L2
section
variable {Φ : Calls} {ER : Exn → Value → Option Addr → Hp → Hp → Prop} {E0 : WX} {X : Cx} {P : Program} {w : World} {K : Frag} {mg : Str → Option Value} {base : Heap} {k : Nat} {N : List Str} {sc : Scope} {C : Cfg}
variable {F H F' H' : Hp} {σ : L2.St} {env env' : Env} {fp : Nat → Addr → Prop} {pv : Nat → Option V} {M A : Addr → Prop}
/-! ### stores -/
def put1 (fp : Nat → Addr → Prop) (i : Nat) (A : Addr → Prop) : Nat → Addr → Prop := fun j b => (j = i ∧ A b) ∨ (j ≠ i ∧ fp j b)
theorem free_pin {i : Nat} (h : free env i = true) : i < env.length ∧ ∀ n d, env[i]? ≠ some (.pn n d) := by
  unfold free at h
  cases e : env[i]? with
  | none => rw [e] at h; cases h
  | some s =>
    refine ⟨(List.getElem?_eq_some_iff.1 e).1, fun n d q => ?_⟩
    cases q
    rw [e] at h; cases h
theorem Stt.put {i : Nat} {s : SV} {v : V} (S : Stt F H σ env fp pv) (hf : free env i = true) (hs : SlotOk F H A (some v) s) (hn : ∀ n d, s ≠ .pn n d) (no : Nof F H A) (ap : ∀ j, j ≠ i → Apart A (fp j)) : Stt F H (σ.set i (some v)) (env.set i s) (put1 fp i A) pv where
  sub := S.sub
  len := by rw [List.length_set, List.length_set]; exact S.len
  sl := fun j s' q => by
    have hi := (free_pin hf).1
    rcases set_get q with ⟨rfl, rfl, _⟩ | ⟨ne, q⟩
    · have e : ((σ.set i (some v))[i]?).join = some v := by rw [List.getElem?_set_self (by rw [S.len]; exact hi)]; rfl
      rw [e]
      have cv : ∀ b, A b → put1 fp i A i b := fun b x => .inl ⟨rfl, x⟩
      cases s' with
      | un => trivial
      | fz d => exact hs
      | ow n d => obtain ⟨w, e1, h⟩ := hs; exact ⟨w, e1, Own.mono (Sub.refl _) cv (fun b u _ x => x) h⟩
      | pn n d => exact (hn n d rfl).elim
    · have z := S.sl j s' q
      have e : (σ.set i (some v))[j]? = σ[j]? := List.getElem?_set_ne ne
      rw [e]
      have cv : ∀ b, fp j b → put1 fp i A j b := fun b x => .inr ⟨fun e => ne e.symm, x⟩
      cases s' with
      | un => trivial
      | fz d => exact z
      | ow n d => obtain ⟨w, e1, h⟩ := z; exact ⟨w, e1, Own.mono (Sub.refl _) cv (fun b u _ x => x) h⟩
      | pn n d => obtain ⟨w, e1, h⟩ := z; exact ⟨w, e1, Own.mono (Sub.refl _) cv (fun b u _ x => x) h⟩
  dis := fun j j' b x y => by
    rcases x with ⟨e1, x⟩ | ⟨e1, x⟩
    · rcases y with ⟨e2, y⟩ | ⟨e2, y⟩
      · rw [e1, e2]
      · exact (ap j' e2 b x y).elim
    · rcases y with ⟨e2, y⟩ | ⟨e2, y⟩
      · exact (ap j e1 b y x).elim
      · exact S.dis j j' b x y
  nof := fun b ⟨j, x⟩ => by
    rcases x with ⟨_, x⟩ | ⟨_, x⟩
    · exact no b x
    · exact S.nof b ⟨j, x⟩
  pin := fun j n d q => by
    rcases set_get q with ⟨rfl, z, _⟩ | ⟨ne, q⟩
    · exact (hn n d z.symm).elim
    · rw [List.getElem?_set_ne ne]; exact S.pin j n d q
theorem put1_cov {i : Nat} {b : Addr} (h : cov (put1 fp i A) b) : cov fp b ∨ A b := by
  obtain ⟨j, x⟩ := h
  rcases x with ⟨_, x⟩ | ⟨_, x⟩
  · exact .inr x
  · exact .inl ⟨j, x⟩
theorem store_fz {i : Nat} {v : V} {d : D} {e' : Env} (S : Stt F H σ env fp pv) (h : At F v d) (e : store env i (.fz d) = some e') : Stt F H (σ.set i (some v)) e' (put1 fp i none1) pv ∧ ∀ b, cov (put1 fp i none1) b → cov fp b := by
  unfold store at e
  split at e
  · rename_i hf
    cases e
    exact ⟨S.put hf ⟨v, rfl, h⟩ (fun _ _ q => by cases q) (fun _ q => q.elim) (fun _ _ _ q => q.elim), fun b q => (put1_cov q).elim id False.elim⟩
  · cases e
theorem store_ok {i : Nat} {v : V} {r : RV} {e' : Env} (S : Stt F H σ env fp pv) (h : RvOk F H σ A v r) (no : Nof F H A) (ap : Apart A (cov fp)) (e : store env i r = some e') :
    ∃ F' fp', Stt F' H (σ.set i (some v)) e' fp' pv ∧ Step (or2 (cov fp) A) F H (cov fp') F' H := by
  unfold store at e
  split at e
  · rename_i hf
    cases r with
    | fz d =>
      cases e
      exact ⟨F, _, S.put hf ⟨v, rfl, h⟩ (fun _ _ q => by cases q) (fun _ q => q.elim) (fun _ _ _ q => q.elim), Step.refl.weak (fun _ q => .inl q) fun b q => .inl ((put1_cov (A := none1) q).elim id False.elim)⟩
    | ow n d =>
      cases e
      exact ⟨F, _, S.put hf ⟨v, rfl, h⟩ (fun _ _ q => by cases q) no (fun j _ b x y => ap b x ⟨j, y⟩), Step.refl.weak (fun _ q => q) fun b q => .inl (put1_cov q)⟩
    | vw j =>
      dsimp only at e
      cases q : env[j]? with
      | none => rw [q] at e; cases e
      | some s =>
        rw [q] at e
        cases s with
        | un => cases e
        | fz d => cases e
        | pn n d => cases e
        | ow n d =>
          cases e
          obtain ⟨S', st, ha⟩ := S.freeze q
          have hf' : free (env.set j (.fz d)) i = true := by
            unfold free
            by_cases hij : j = i
            · subst hij
              rw [List.getElem?_set_self (List.getElem?_eq_some_iff.1 q).1]
            · rw [List.getElem?_set_ne hij]; exact hf
          have hv : σ[j]? = some (some v) := h
          exact ⟨_, _, S'.put (s := .fz d) (v := v) (A := none1) hf' ⟨v, rfl, ha v hv⟩ (fun _ _ q => by cases q) (fun _ q => q.elim) (fun _ _ _ q => q.elim),
            st.weak (fun b q => .inl q) fun b q => .inl ((put1_cov q).elim id False.elim)⟩
  · cases e
/-! ### targets -/
structure Locs (N : List Str) (sl : Scope) (X : Cx) : Prop where
  eN : X.N = N
  nd : N.Nodup
  calm : X.calm = true
  ok : ∀ x, loc sl x = true → Loc X.env.scope x ∧ (X.fn x = true ∨ X.env.scope.names.lookup x = some .local)
theorem WGs.pgs {es : List Expr} : PGs X es (fun vs σ H Q => ∃ t, PGs X es t ∧ t vs σ H Q) := ⟨fun pins s σ H vs us Q I r ⟨_, h, q⟩ => h.run pins s σ H vs us Q I r q⟩
theorem tg_shape {t : Tg} {e : Expr} {sl : Scope} (h : mTg N sl t e = true) : (∃ x p, e = .Name x p) ∨ ∃ es j p, e = .Tuple es j p := by
  cases t with
  | nm i => cases e <;> first | exact .inl ⟨_, _, rfl⟩ | (simp [mTg] at h)
  | tp ts => cases e <;> first | exact .inr ⟨_, _, _, rfl⟩ | (simp [mTg] at h)
theorem each_tg {e : Expr} {es : List Expr} {en : PySem.Env} (h : (∃ x p, e = .Name x p) ∨ ∃ es j p, e = .Tuple es j p) : assignEach (e :: es) en = (false, assign e en) :: assignEach es en := by
  rcases h with ⟨x, p, rfl⟩ | ⟨es', j, p, rfl⟩ <;> rfl
theorem each_len {ts : List Tg} {sl : Scope} {en : PySem.Env} : ∀ {ts : List Tg} {es : List Expr}, mTgs N sl ts es = true → (assignEach es en).length = ts.length ∧ (assignEach es en).findIdx? (·.1) = none
  | [], [], _ => ⟨rfl, rfl⟩
  | [], _ :: _, h => by simp [mTgs] at h
  | _ :: _, [], h => by simp [mTgs] at h
  | t :: ts, e :: es, h => by
    rw [mTgs, Bool.and_eq_true] at h
    obtain ⟨h1, h2⟩ := each_len (ts := ts) (en := en) h.2
    rw [each_tg (tg_shape h.1)]
    refine ⟨by rw [List.length_cons, List.length_cons, h1], ?_⟩
    rw [List.findIdx?_cons]
    simp [h2]
theorem wipe_set_out {x : Option V} {i : Nat} {σ : L2.St} : ∀ {vs : List Nat}, i ∉ vs → wipe (σ.set i x) vs = (wipe σ vs).set i x
  | [], _ => rfl
  | v :: vs, h => by
    have hv : i ≠ v := fun e => h (by rw [e]; exact List.mem_cons_self)
    unfold wipe
    rw [wipe_set_out fun m => h (List.mem_cons_of_mem _ m), List.set_comm _ _ hv]
theorem wipe_set {x : Option V} {i : Nat} {σ : L2.St} : ∀ {vs : List Nat}, i ∈ vs → wipe (σ.set i x) vs = wipe σ vs
  | v :: vs, h => by
    unfold wipe
    by_cases hr : i ∈ vs
    · rw [wipe_set hr]
    · have : i = v := by
        rcases List.mem_cons.1 h with e | e
        · exact e
        · exact absurd e hr
      subst this
      rw [wipe_set_out hr, List.set_set]
mutual
theorem tg_ok {sl : Scope} (L : Locs N sl X) : ∀ (t : Tg) (e : Expr) {env e2 : Env} {F H : Hp} {σ : L2.St} {fp : Nat → Addr → Prop} {v : V} {d : D} {Q : L2.St → Hp → Prop}, mTg N sl t e = true → Stt F H σ env fp pv → At F v d → tgt t d env = some e2 →
    (∀ σ2 fp2, Stt F H σ2 e2 fp2 pv → (∀ b, cov fp2 b → cov fp b) → (∀ vs, tgIn vs t = true → wipe σ2 vs = wipe σ vs) → Q σ2 H) → WG X e v σ H Q
  | .nm i, e, env, e2, F, H, σ, fp, v, d, Q, hm, S, h, ht, q => by
    cases e with
    | Name x p =>
      rw [mTg, Bool.and_eq_true] at hm
      obtain ⟨l1, l2⟩ := L.ok x hm.2
      refine ⟨_, pg_name (i := i) (by rw [L.eN]; exact L.nd) (by rw [L.eN]; exact of_decide_eq_true hm.1) l1 l2, ?_⟩
      obtain ⟨S', c⟩ := store_fz S h ht
      exact q _ _ S' c fun vs hv => wipe_set (List.contains_iff_mem.1 hv)
    | _ => simp [mTg] at hm
  | .tp ts, e, env, e2, F, H, σ, fp, v, d, Q, hm, S, h, ht, q => by
    cases e with
    | Tuple es j p =>
      rw [mTg] at hm
      cases d with
      | tup ds =>
        rw [tgt] at ht
        obtain ⟨n1, n2⟩ := each_len (ts := ts) (en := X.env) hm
        cases h with
        | tup hF t =>
          refine ⟨_, pg_tup L.calm WGs.pgs rfl n2, _, _, rfl, SqT.of (S.sub _ _ hF), ?_, tgs_ok L ts es hm S t ht q⟩
          rw [n1, t.length]
          exact (tgts_len ht).symm
      | _ => simp [tgt] at ht
    | _ => simp [mTg] at hm
theorem tgs_ok {sl : Scope} (L : Locs N sl X) : ∀ (ts : List Tg) (es : List Expr) {env e2 : Env} {F H : Hp} {σ : L2.St} {fp : Nat → Addr → Prop} {vs : List V} {ds : List D} {Q : L2.St → Hp → Prop}, mTgs N sl ts es = true → Stt F H σ env fp pv → AtL F vs ds → tgts ts ds env = some e2 →
    (∀ σ2 fp2, Stt F H σ2 e2 fp2 pv → (∀ b, cov fp2 b → cov fp b) → (∀ vs, tgIns vs ts = true → wipe σ2 vs = wipe σ vs) → Q σ2 H) → ∃ t, PGs X es t ∧ t vs σ H Q
  | [], [], env, e2, F, H, σ, fp, vs, ds, Q, _, S, t, ht, q => by
    cases ds with
    | nil =>
      cases t
      simp [tgts] at ht; subst ht
      exact ⟨_, pgs_nil, rfl, q σ fp S (fun _ z => z) fun _ _ => rfl⟩
    | cons _ _ => simp [tgts] at ht
  | [], _ :: _, _, _, _, _, _, _, _, _, _, hm, _, _, _, _ => by simp [mTgs] at hm
  | _ :: _, [], _, _, _, _, _, _, _, _, _, hm, _, _, _, _ => by simp [mTgs] at hm
  | t :: ts, e :: es, env, e2, F, H, σ, fp, vs, ds, Q, hm, S, tt, ht, q => by
    rw [mTgs, Bool.and_eq_true] at hm
    cases ds with
    | nil => simp [tgts] at ht
    | cons d ds =>
      cases tt with
      | cons h tt =>
        rw [tgts] at ht
        cases e1 : tgt t d env with
        | none => rw [e1] at ht; cases ht
        | some en1 =>
          rw [e1, Option.bind_some] at ht
          refine ⟨_, pgs_cons WG.pg WGs.pgs (by rw [each_tg (tg_shape hm.1)]; rfl), _, _, rfl, ?_⟩
          exact tg_ok L t e hm.1 S h e1 fun σ2 fp2 S2 c2 w2 => tgs_ok L ts es hm.2 S2 tt ht fun σ3 fp3 S3 c3 w3 => q σ3 fp3 S3 (fun b z => c2 b (c3 b z)) fun vs hv => by
            rw [tgIns, Bool.and_eq_true] at hv
            rw [w3 vs hv.2, w2 vs hv.1]
theorem tgts_len : ∀ {ts : List Tg} {ds : List D} {env e2 : Env}, tgts ts ds env = some e2 → ts.length = ds.length
  | [], [], _, _, _ => rfl
  | [], _ :: _, _, _, h => by simp [tgts] at h
  | _ :: _, [], _, _, h => by simp [tgts] at h
  | t :: ts, d :: ds, env, e2, h => by
    rw [tgts] at h
    cases e1 : tgt t d env with
    | none => rw [e1] at h; cases h
    | some en1 =>
      rw [e1, Option.bind_some] at h
      rw [List.length_cons, List.length_cons, tgts_len h]
end
end
end Mi
end
section
set_option Elab.async false
set_option linter.all false
set_option maxRecDepth 100000
namespace Mi
open PySem L2
def SI (Φ : Calls) (ER : Exn → Value → Option Addr → Hp → Hp → Prop) (E0 : WX) (X : Cx) (src : Ex) (tg it : Expr) : Prop := ∀ (env : Env) (F H : Hp) (σ : L2.St) (pv : Nat → Option V) (fp : Nat → Addr → Prop) (R : It → Hp → Prop), Stt F H σ env fp pv → Post ER (atS E0 σ) σ pv (evi Φ src env) (fun F' H' A J p => Walks F' σ J p) (cov fp) F H R → WI X tg it σ H R
section
variable {Φ : Calls} {ER : Exn → Value → Option Addr → Hp → Hp → Prop} {E0 : WX} {X : Cx} {P : Program} {w : World} {K : Frag} {mg : Str → Option Value} {base : Heap} {k : Nat} {N : List Str} {sc : Scope} {C : Cfg}
variable {F H F' H' : Hp} {σ : L2.St} {env env' : Env} {fp : Nat → Addr → Prop} {pv : Nat → Option V} {M A : Addr → Prop}
/-! ### sources -/
def lkOk (env : Env) (lk : Option (Nat × SV)) : Prop := ∀ j s, lk = some (j, s) → env[j]? = some s ∧ ∃ n d, pinS s = .pn n d
theorem source_lk {x : RV} {p : List D × Option (Nat × SV)} (h : source env x = some p) : lkOk env p.2 := by
  intro j s e
  cases x with
  | fz d => cases d <;> simp [source] at h <;> (subst h; cases e)
  | ow n d => cases d <;> simp [source] at h <;> (subst h; cases e)
  | vw i =>
    unfold source at h
    dsimp only at h
    split at h
    · rename_i ds s' h1 h2
      cases h
      cases e
      refine ⟨h2, ?_⟩
      rcases obj_get h1 with q | q
      · rw [h2] at q; cases q; exact ⟨_, _, rfl⟩
      · rw [h2] at q; cases q; exact ⟨_, _, rfl⟩
    · cases h
theorem evi_lk {src : Ex} {p : List D × Option (Nat × SV)} (h : evi Φ src env = .ok p env') : lkOk env' p.2 := by
  have none' : ∀ {ds : List D}, p = (ds, none) → lkOk env' p.2 := fun e => by subst e; intro j s e; cases e
  cases src <;> unfold evi at h <;> try (cases h; done)
  · rename_i a
    cases ea : ev Φ a env with
    | no => rw [ea] at h; cases h
    | ex x => rw [ea] at h; cases h
    | ok x e1 =>
      rw [ea, Rs.bind_ok] at h
      cases es : source e1 x with
      | none => rw [es] at h; cases h
      | some q => rw [es] at h; cases h; exact source_lk es
  · rename_i a
    cases ea : ev Φ a env with
    | no => rw [ea] at h; cases h
    | ex x => rw [ea] at h; cases h
    | ok x e1 =>
      rw [ea, Rs.bind_ok] at h
      split at h
      · split at h
        · cases h; exact none' rfl
        · cases h
      · cases h
  · rename_i a b
    cases ea : ev Φ a env with
    | no => rw [ea] at h; cases h
    | ex x => rw [ea] at h; cases h
    | ok x e1 =>
      rw [ea, Rs.bind_ok] at h
      cases eb : ev Φ b e1 with
      | no => rw [eb] at h; cases h
      | ex x => rw [eb] at h; cases h
      | ok y e2 =>
        rw [eb, Rs.bind_ok] at h
        split at h
        · split at h
          · cases h; exact none' rfl
          · cases h
        · cases h
  · rename_i a
    cases ea : ev Φ a env with
    | no => rw [ea] at h; cases h
    | ex x => rw [ea] at h; cases h
    | ok x e1 =>
      rw [ea, Rs.bind_ok] at h
      cases es : source e1 x with
      | none => rw [es] at h; split at h <;> cases h
      | some q =>
        rw [es] at h
        split at h
        · cases h
        · cases h
          exact source_lk (p := (q.1, q.2)) es
/-- a list or tuple that is walked, as it stands -/
theorem source_ok {x : RV} {v : V} {ds : List D} {lk : Option (Nat × SV)} (S : Stt F H σ env fp pv) (r : RvOk F H σ A v x) (no : Nof F H A) (ap : Apart A (cov fp)) (h : source env x = some (ds, lk)) :
    ∃ F', Stt F' H σ env fp pv ∧ Step (or2 (cov fp) A) F H (cov fp) F' H ∧ ((∃ a vs, v = .ref a ∧ Rd H a (.lst vs) ∧ Stays F' σ a ds lk) ∨ (∃ a vs, v = .ref a ∧ F' a = some (.tup vs) ∧ AtL F' vs ds ∧ lk = none ∧ x = .fz (.tup ds)) ∨ ∃ z : Str, v = .str z ∧ ds = z.cps.toList.map (fun c => D.str ⟨#[c]⟩) ∧ lk = none ∧ x = .fz (.str z)) := by
  have st0 : Step (or2 (cov fp) A) F H (cov fp) F H := Step.refl.weak (fun _ q => q) fun _ q => .inl (.inl q)
  cases x with
  | fz d =>
    cases d with
    | lst ds' =>
      cases h
      cases r with
      | lst hF t => exact ⟨F, S, st0, .inl ⟨_, _, rfl, Rd.mono S.sub hF, stays_fz hF t⟩⟩
    | tup ds' =>
      cases h
      cases r with
      | tup hF t => exact ⟨F, S, st0, .inr (.inl ⟨_, _, rfl, hF, t, rfl, rfl⟩)⟩
    | str z =>
      cases h
      cases r
      exact ⟨F, S, st0, .inr (.inr ⟨z, rfl, rfl, rfl, rfl⟩)⟩
    | _ => cases h
  | ow n d =>
    cases d with
    | lst ds' =>
      cases h
      have st := frzn_alone (F := F) (H := H) no
      have ha := Own.frzn S.sub no r
      cases ha with
      | lst hF t => exact ⟨_, S.prim st (frzn_le S.sub) ap.symm, frzn_step no, .inl ⟨_, _, rfl, Rd.mono (frzn_le S.sub) hF, stays_fz hF t⟩⟩
    | _ => cases h
  | vw i =>
    unfold source at h
    dsimp only at h
    split at h
    · rename_i ds' s' h1 h2
      cases h
      obtain ⟨w, hw, a, vs, rfl, ha, hh, kk⟩ := S.objn h1
      have hv : σ[i]? = some (some v) := r
      rw [hw] at hv; cases hv
      refine ⟨F, S, st0, .inl ⟨a, vs, rfl, .inl hh, stays_vw ?_ ?_⟩⟩
      · rcases obj_get h1 with q | q
        · rw [h2] at q; cases q; rfl
        · rw [h2] at q; cases q; rfl
      · show (σ[i]?).join = _
        rw [hw]; rfl
    · cases h
theorem sendPost {J : It} {p : List D × Option (Nat × SV)} {R : It → Hp → Prop} {e1 : Env} (Pq : Post ER (atS E0 σ) σ pv (.ok p e1) (fun F' H' A J p => Walks F' σ J p) (cov fp) F H R) (S : Stt F H σ e1 fp pv) (wk : Walks F σ J p) : R J H :=
  Pq J F H fp none1 S (step_ref (A := none1)) wk (fun _ q => q.elim) (fun _ q => q.elim)
theorem caseI_seq {a : Ex} {tg it : Expr} (ha : SE Φ ER E0 X a it) : SI Φ ER E0 X (.seq a) tg it := by
  intro env F H σ pv fp R S P
  unfold evi at P
  have first := ha env F H σ pv fp
  cases ea : ev Φ a env with
  | no => rw [ea] at P; exact P.elim
  | ex x => exact ⟨_, pi_list WE.pe, first _ S (by rw [ea] at P ⊢; exact P)⟩
  | ok x e1 =>
    rw [ea, Rs.bind_ok] at P
    rw [ea] at first
    cases es : source e1 x with
    | none => rw [es] at P; exact P.elim
    | some p =>
      obtain ⟨ds, lk⟩ := p
      rw [es, ofO_some] at P
      -- which walk it is, is told by what is walked
      have kind : (∃ ds', x = .fz (.tup ds')) ∨ (∃ z, x = .fz (.str z)) ∨ ((∀ ds', x ≠ .fz (.tup ds')) ∧ ∀ z, x ≠ .fz (.str z)) := by
        cases x with
        | fz d => cases d <;> first | exact .inl ⟨_, rfl⟩ | exact .inr (.inl ⟨_, rfl⟩) | exact .inr (.inr ⟨fun _ q => (by cases q), fun _ q => (by cases q)⟩)
        | ow n d => exact .inr (.inr ⟨fun _ q => (by cases q), fun _ q => (by cases q)⟩)
        | vw i => exact .inr (.inr ⟨fun _ q => (by cases q), fun _ q => (by cases q)⟩)
      rcases kind with ⟨ds', rfl⟩ | ⟨z, rfl⟩ | ⟨k1, k2⟩
      · refine ⟨_, pi_tup WE.pe, first _ S fun v F1 H1 fp1 A1 S1 st1 r1 n1 ap1 => ?_⟩
        cases es
        cases r1 with
        | tup hF t =>
          refine ⟨_, rfl, ⟨_, SqT.of (S1.sub _ _ hF)⟩, ?_⟩
          exact sendPost ((Post.step P st1).less fun b q => .inl q) S1 (walks_tup hF t)
      · refine ⟨_, pi_str WE.pe, first _ S fun v F1 H1 fp1 A1 S1 st1 r1 n1 ap1 => ?_⟩
        cases es
        cases r1
        exact ⟨z, rfl, sendPost ((Post.step P st1).less fun b q => .inl q) S1 walks_str⟩
      · refine ⟨_, pi_list WE.pe, first _ S fun v F1 H1 fp1 A1 S1 st1 r1 n1 ap1 => ?_⟩
        obtain ⟨F2, S2, st2, h⟩ := source_ok S1 r1 n1 ap1 es
        rcases h with ⟨a, vs, rfl, hr, hs⟩ | ⟨a, vs, rfl, hF, t, rfl, e⟩ | ⟨z, rfl, rfl, rfl, e⟩
        · exact ⟨a, rfl, ⟨vs, .inl hr⟩, sendPost (Post.step P (st1.trans st2)) S2 (walks_list hs)⟩
        · exact (k1 _ e).elim
        · exact (k2 _ e).elim
end
end Mi
end
section
set_option Elab.async false
set_option linter.all false
set_option maxRecDepth 100000
namespace Mi
open PySem L2
section
variable {Φ : Calls} {ER : Exn → Value → Option Addr → Hp → Hp → Prop} {E0 : WX} {X : Cx} {P : Program} {w : World} {K : Frag} {mg : Str → Option Value} {base : Heap} {k : Nat} {N : List Str} {sc : Scope} {C : Cfg}
variable {F H F' H' : Hp} {σ : L2.St} {env env' : Env} {fp : Nat → Addr → Prop} {pv : Nat → Option V} {M A : Addr → Prop}
theorem rng_mem : ("range" : Str) ∈ (["len", "int", "abs", "all", "any", "sum", "tuple", "list", "max", "min", "reversed", "isinstance", "range", "enumerate", "bool", "str", "dict"] : List Str) := by decide +kernel
theorem enm_mem : ("enumerate" : Str) ∈ (["len", "int", "abs", "all", "any", "sum", "tuple", "list", "max", "min", "reversed", "isinstance", "range", "enumerate", "bool", "str", "dict"] : List Str) := by decide +kernel
theorem small_of {i : Int} (h : small62 i = true) : -(2 ^ 62) ≤ i ∧ i < 2 ^ 62 := by
  unfold small62 at h
  rw [Bool.and_eq_true] at h
  exact ⟨of_decide_eq_true h.1, of_decide_eq_true h.2⟩
theorem caseI_rng1 {a : Ex} {tg fe a' : Expr} {pos : Pos} (T : Tab C P w K mg base Φ ER k) (c : CxOk P w K mg base k N sc E0 X) (hn : glName sc "range" fe = true) (hg : badE a' = false) (ha : SE Φ ER E0 X a a') : SI Φ ER E0 X (.rng1 a) tg (.Call fe [a'] [] pos) := by
  obtain ⟨p, rfl, hgl⟩ := glName_of hn
  intro env F H σ pv fp R S P
  unfold evi at P
  refine ⟨_, pi_range1 (c.gl hgl) (by rw [c.emg]; exact T.blts _ rng_mem) (pa_cons WE.pe pa_nil (star_good hg)) (star_good hg), ha env F H σ pv fp _ S (P.sp0 fun x e1 v F1 H1 fp1 A1 S1 st1 r1 n1 ap1 P1 => ?_)⟩
  split at P1
  · rename_i j
    split at P1
    · rename_i hs
      cases r1
      obtain ⟨h1, h2⟩ := small_of hs
      refine ⟨j, rfl, h1, h2, ?_⟩
      have wk : Walks F1 σ (Itr 0 j.toNat) (rngD 0 j, none) := by
        have := walks_range (F := F1) (σ0 := σ) (lo := 0) (hi := j)
        rw [Int.sub_zero] at this
        exact this
      exact sendPost (P1.less fun b q => .inl q) S1 wk
    · exact P1.elim
  · exact P1.elim
theorem caseI_rng2 {a b : Ex} {tg fe a' b' : Expr} {pos : Pos} (T : Tab C P w K mg base Φ ER k) (c : CxOk P w K mg base k N sc E0 X) (hn : glName sc "range" fe = true) (hg : badE a' = false) (hg2 : badE b' = false) (ha : SE Φ ER E0 X a a') (hb : SE Φ ER E0 X b b') : SI Φ ER E0 X (.rng2 a b) tg (.Call fe [a', b'] [] pos) := by
  obtain ⟨p, rfl, hgl⟩ := glName_of hn
  intro env F H σ pv fp R S P
  unfold evi at P
  have s1 : starEach [a', b'] X.env = (false, eval a' X.env) :: starEach [b'] X.env := star_good hg
  have s2 : starEach [b'] X.env = (false, eval b' X.env) :: starEach [] X.env := star_good hg2
  refine ⟨_, pi_range2 (c.gl hgl) (by rw [c.emg]; exact T.blts _ rng_mem) (pa_cons WE.pe (pa_cons WE.pe pa_nil s2) s1) (by rw [s1, s2]; rfl) (by rw [s2]; rfl), ha env F H σ pv fp _ S (P.sp0 fun x e1 v F1 H1 fp1 A1 S1 st1 r1 n1 ap1 P1 => ?_)⟩
  refine hb e1 F1 H1 σ pv fp1 _ S1 (P1.sp (M0 := cov fp1) (A := A1) (fun b q => .inl q) (fun b q => .inr q) n1 ap1 fun y e2 u F2 H2 fp2 A2 S2 st2 r2 n2 ap2 nA aA P2 => ?_)
  split at P2
  · rename_i i j
    split at P2
    · rename_i hs
      rw [Bool.and_eq_true] at hs
      cases r1; cases r2
      obtain ⟨h1, h2⟩ := small_of hs.1
      obtain ⟨h3, h4⟩ := small_of hs.2
      exact ⟨i, j, rfl, ⟨h1, h2, h3, h4⟩, sendPost (P2.less fun b q => .inl (.inl q)) S2 walks_range⟩
    · exact P2.elim
  · exact P2.elim
theorem caseI_enm {a : Ex} {es : List Expr} {j : Nat} {fe a' : Expr} {pos pt : Pos} (T : Tab C P w K mg base Φ ER k) (c : CxOk P w K mg base k N sc E0 X) (hn : glName sc "enumerate" fe = true) (hg : badE a' = false) (ha : SE Φ ER E0 X a a') : SI Φ ER E0 X (.enm a) (.Tuple es j pt) (.Call fe [a'] [] pos) := by
  obtain ⟨p, rfl, hgl⟩ := glName_of hn
  intro env F H σ pv fp R S P
  unfold evi at P
  have first := ha env F H σ pv fp
  have hm : X.mg "enumerate" = none := by rw [c.emg]; exact T.blts _ enm_mem
  cases ea : ev Φ a env with
  | no => rw [ea] at P; exact P.elim
  | ex x => exact ⟨_, pi_enum (c.gl hgl) hm (pa_cons WE.pe pa_nil (star_good hg)) (star_good hg), first _ S (by rw [ea] at P ⊢; exact P)⟩
  | ok x e1 =>
    rw [ea, Rs.bind_ok] at P
    rw [ea] at first
    by_cases ks : isStr x = true
    · rw [if_pos ks] at P; exact P.elim
    rw [if_neg ks] at P
    cases es : source e1 x with
    | none => rw [es] at P; exact P.elim
    | some p =>
      obtain ⟨ds, lk⟩ := p
      rw [es] at P
      dsimp only at P
      by_cases kt : ∃ ds', x = .fz (.tup ds')
      · obtain ⟨ds', rfl⟩ := kt
        refine ⟨_, pi_enumT (c.gl hgl) hm (pa_cons WE.pe pa_nil (star_good hg)) (star_good hg), first _ S fun v F1 H1 fp1 A1 S1 st1 r1 n1 ap1 => ?_⟩
        cases es
        cases r1 with
        | tup hF t => exact ⟨_, _, rfl, SqT.of (S1.sub _ _ hF), sendPost ((Post.step P st1).less fun b q => .inl q) S1 (walks_enumT hF t)⟩
      · refine ⟨_, pi_enum (c.gl hgl) hm (pa_cons WE.pe pa_nil (star_good hg)) (star_good hg), first _ S fun v F1 H1 fp1 A1 S1 st1 r1 n1 ap1 => ?_⟩
        obtain ⟨F2, S2, st2, h⟩ := source_ok S1 r1 n1 ap1 es
        rcases h with ⟨a, vs, rfl, hr, hs⟩ | ⟨a, vs, rfl, hF, t, rfl, e⟩ | ⟨z, rfl, rfl, rfl, e⟩
        · exact ⟨a, vs, rfl, .inl hr, sendPost (Post.step P (st1.trans st2)) S2 (walks_enum hs)⟩
        · exact (kt ⟨_, e⟩).elim
        · exact (ks (by rw [e]; rfl)).elim
/-! ### what holds behind a statement -/
def PostS (ER : Exn → Value → Option Addr → Hp → Hp → Prop) (EX : XK) (pv : Nat → Option V) (o : Rs Fl) (M : Addr → Prop) (F H : Hp) (D : Ends) : Prop := match o with
  | .no => False
  | .ex x => ∀ cls d F' H', Step M F H none1 F' H' → Sub F' H' → ER x cls d F' H' → EX cls d H'
  | .ok .nx env' => ∀ σ' F' H' fp', Stt F' H' σ' env' fp' pv → Step M F H (cov fp') F' H' → D.nx σ' H'
  | .ok .brk env' => ∀ σ' F' H' fp', Stt F' H' σ' env' fp' pv → Step M F H (cov fp') F' H' → D.bk σ' H'
  | .ok .cnt env' => ∀ σ' F' H' fp', Stt F' H' σ' env' fp' pv → Step M F H (cov fp') F' H' → D.ct σ' H'
  | .ok (.ret r) env' => ∀ v σ' F' H' fp' A, Stt F' H' σ' env' fp' pv → Step M F H (or2 (cov fp') A) F' H' → RvOk F' H' [] A v r → Nof F' H' A → Apart A (cov fp') → D.rt v H'
section
variable {EX : XK} {α β : Type} {o : Rs α} {kk : α → Env → Rs Fl} {R1 : Hp → Hp → (Addr → Prop) → β → α → Prop} {D : Ends} {Q1 : β → Hp → Prop} {o' : Rs Fl} {M' : Addr → Prop}
theorem PostS.step (P : PostS ER EX pv o' M F H D) (st : Step M F H M' F' H') : PostS ER EX pv o' M' F' H' D := by
  cases o' with
  | no => exact P
  | ex x => exact fun cls d G J s2 h e => P cls d G J (st.trans s2) h e
  | ok f env =>
    cases f with
    | nx => exact fun σ' G J fp S s2 => P σ' G J fp S (st.trans s2)
    | brk => exact fun σ' G J fp S s2 => P σ' G J fp S (st.trans s2)
    | cnt => exact fun σ' G J fp S s2 => P σ' G J fp S (st.trans s2)
    | ret r => exact fun v σ' G J fp A S s2 h n a => P v σ' G J fp A S (st.trans s2) h n a
theorem PostS.less (P : PostS ER EX pv o' M F H D) (h : ∀ b, M' b → M b) : PostS ER EX pv o' M' F H D := by
  cases o' with
  | no => exact P
  | ex x => exact fun cls d G J s2 q e => P cls d G J (s2.weak h fun _ z => z.elim) q e
  | ok f env =>
    cases f with
    | nx => exact fun σ' G J fp S s2 => P σ' G J fp S (s2.weak h fun _ z => .inl z)
    | brk => exact fun σ' G J fp S s2 => P σ' G J fp S (s2.weak h fun _ z => .inl z)
    | cnt => exact fun σ' G J fp S s2 => P σ' G J fp S (s2.weak h fun _ z => .inl z)
    | ret r => exact fun v σ' G J fp A S s2 h' n a => P v σ' G J fp A S (s2.weak h fun _ z => .inl z) h' n a
theorem PostS.sp {M0 A : Addr → Prop} (P : PostS ER EX pv (o.bind kk) M F H D) (hM : ∀ b, M0 b → M b) (hA : ∀ b, A b → M b) (no : Nof F H A) (ap : Apart A M0)
    (h : ∀ a env' b F' H' fp' B, o = .ok a env' → Stt F' H' σ env' fp' pv → Step M0 F H (or2 (cov fp') B) F' H' → R1 F' H' B b a → Nof F' H' B → Apart B (cov fp') → Nof F' H' A → Apart A (or2 (cov fp') B) →
      PostS ER EX pv (kk a env') (or2 (or2 (cov fp') B) A) F' H' D → Q1 b H') : Post ER EX σ pv o R1 M0 F H Q1 := by
  cases e : o with
  | no => rw [e] at P; exact P
  | ex x =>
    rw [e] at P
    exact fun cls d G J s2 q e => P cls d G J (s2.weak hM fun _ z => z.elim) q e
  | ok a env =>
    rw [e] at P
    intro b G J fp B S s2 r n ap2
    refine h a env b G J fp B e S s2 r n ap2 (no.step s2 ap) (Apart.step no s2 ap) ?_
    exact PostS.step P (s2.weak hM fun b z => by
      rcases z with z | z
      · exact .inl z
      · exact .inr (.inl (hA b z)))
theorem PostS.sp0 (P : PostS ER EX pv (o.bind kk) M F H D)
    (h : ∀ a env' b F' H' fp' B, o = .ok a env' → Stt F' H' σ env' fp' pv → Step M F H (or2 (cov fp') B) F' H' → R1 F' H' B b a → Nof F' H' B → Apart B (cov fp') →
      PostS ER EX pv (kk a env') (or2 (cov fp') B) F' H' D → Q1 b H') : Post ER EX σ pv o R1 M F H Q1 :=
  P.sp (M0 := M) (A := none1) (fun _ q => q) (fun _ q => q.elim) (fun _ q => q.elim) (fun _ q => q.elim) fun a env' b F' H' fp' B e S st r n ap _ _ P' => h a env' b F' H' fp' B e S st r n ap (P'.less fun b q => .inl q)
end
/-! ### the lock -/
def lockP (lk : Option (Nat × SV)) (σ : L2.St) (pv : Nat → Option V) : Nat → Option V := match lk with
  | none => pv
  | some (j, _) => fun i => if i = j then slotV σ j else pv i
theorem lockP_at {lk : Option (Nat × SV)} {j : Nat} {s : SV} (e : lk = some (j, s)) : lockP lk σ pv j = slotV σ j := by
  subst e
  show (if j = j then _ else _) = _
  rw [if_pos rfl]
theorem slotV_some {j : Nat} {w : V} (h : σ[j]? = some (some w)) : slotV σ j = some w := by unfold slotV; rw [h]; rfl
theorem lock_ok {lk : Option (Nat × SV)} (S : Stt F H σ env fp pv) (h : lkOk env lk) : Stt F H σ (lockE lk env) fp (lockP lk σ pv) := by
  cases lk with
  | none => exact S
  | some p =>
    obtain ⟨j, s⟩ := p
    obtain ⟨e, n, d, ep⟩ := h j s rfl
    have own : ∃ w, σ[j]? = some (some w) ∧ Own F H n (fp j) w d := by
      cases s with
      | un => cases ep
      | fz d => cases ep
      | ow m d' => cases ep; exact S.own e
      | pn m d' => cases ep; exact S.pinn e
    obtain ⟨w, hw, ho⟩ := own
    refine ⟨S.sub, by show σ.length = (env.set j _).length; rw [List.length_set]; exact S.len, fun i s' q => ?_, S.dis, S.nof, fun i m e' q => ?_⟩
    · rcases set_get q with ⟨rfl, rfl, _⟩ | ⟨ne, q⟩
      · rw [ep]; exact ⟨w, by rw [hw]; rfl, ho⟩
      · exact S.sl i s' q
    · rcases set_get q with ⟨rfl, _, _⟩ | ⟨ne, q⟩
      · show σ[j]? = some (if j = j then slotV σ j else pv j)
        rw [if_pos rfl, slotV_some hw]; exact hw
      · show σ[i]? = some (if i = j then slotV σ j else pv i)
        rw [if_neg (Ne.symm ne)]; exact S.pin i m e' q
theorem unlock_ok {lk : Option (Nat × SV)} {σ0 : L2.St} {env0 : Env} {F0 H0 : Hp} {fp0 : Nat → Addr → Prop} (S0 : Stt F0 H0 σ0 env0 fp0 pv) (h : lkOk env0 lk) (hh : held lk env = true) (S : Stt F H σ env fp (lockP lk σ0 pv)) : Stt F H σ (unlockE lk env) fp pv := by
  cases lk with
  | none => exact S
  | some p =>
    obtain ⟨j, s⟩ := p
    obtain ⟨e, n, d, ep⟩ := h j s rfl
    have ej : env[j]? = some (.pn n d) := by rw [← ep]; exact eq_of_beq hh
    obtain ⟨w, hw, ho⟩ := S.pinn ej
    have pj : ∀ {m d'}, s = .pn m d' → slotV σ0 j = pv j := fun {m d'} es => by
      subst es
      have q := S0.pin j _ _ e
      unfold slotV
      rw [q]; rfl
    refine ⟨S.sub, by show σ.length = (env.set j s).length; rw [List.length_set]; exact S.len, fun i s' q => ?_, S.dis, S.nof, fun i m e' q => ?_⟩
    · rcases set_get q with ⟨rfl, rfl, _⟩ | ⟨ne, q⟩
      · cases s' with
        | un => trivial
        | fz d => cases ep
        | ow m d' => cases ep; exact ⟨w, by rw [hw]; rfl, ho⟩
        | pn m d' => cases ep; exact ⟨w, by rw [hw]; rfl, ho⟩
      · exact S.sl i s' q
    · rcases set_get q with ⟨rfl, z, _⟩ | ⟨ne, q⟩
      · have q2 := S.pin j n d ej
        rw [q2]
        show some (if j = j then slotV σ0 j else pv j) = _
        rw [if_pos rfl, pj z.symm]
      · have q2 := S.pin i m e' q
        rw [q2]
        show some (if i = j then slotV σ0 j else pv i) = _
        rw [if_neg (Ne.symm ne)]
end
end Mi
end
section
set_option Elab.async false
set_option linter.all false
set_option maxRecDepth 100000
namespace Mi
open PySem L2
def SS (Φ : Calls) (W : Nat) (ER : Exn → Value → Option Addr → Hp → Hp → Prop) (E0 : XK) (X : Cx) (s : Sm) (st : Stmt) : Prop := ∀ (env : Env) (F H : Hp) (σ : L2.St) (pv : Nat → Option V) (fp : Nat → Addr → Prop) (D : Ends), Stt F H σ env fp pv → PostS ER E0 pv (exc Φ W s env) (cov fp) F H D → WS X st D σ H
def SB (Φ : Calls) (W : Nat) (ER : Exn → Value → Option Addr → Hp → Hp → Prop) (E0 : XK) (X : Cx) (s : Sm) (sts : List Stmt) : Prop := ∀ (env : Env) (F H : Hp) (σ : L2.St) (pv : Nat → Option V) (fp : Nat → Addr → Prop) (D : Ends), Stt F H σ env fp pv → PostS ER E0 pv (exc Φ W s env) (cov fp) F H D → WB X sts D σ H
section
variable {Φ : Calls} {Wn : Nat} {ER : Exn → Value → Option Addr → Hp → Hp → Prop} {E0 : XK} {X : Cx} {P : Program} {w : World} {K : Frag} {mg : Str → Option Value} {base : Heap} {k : Nat} {N : List Str} {sc : Scope} {C : Cfg}
variable {F H F' H' : Hp} {σ : L2.St} {env env' : Env} {fp : Nat → Addr → Prop} {pv : Nat → Option V} {M A : Addr → Prop}
theorem drop_cons {α : Type} {l : List α} {i : Nat} {d : α} (h : l[i]? = some d) : l.drop i = d :: l.drop (i + 1) := by
  have hi := (List.getElem?_eq_some_iff.1 h).1
  rw [List.drop_eq_getElem_cons hi]
  congr 1
  exact (List.getElem?_eq_some_iff.1 h).2
theorem fold_good {e : Expr} {en : PySem.Env} (h : badE e = false) : ∀ x, foldedSetIterable e en x = pure x := by
  intro x
  cases e <;> first | rfl | cases h
/-- the body of a loop, between two turns -/
theorem body_ok {body : Env → Rs Fl} {lk : Option (Nat × SV)} {t : Tg} {ds : List D} {e2 : Env} {pv2 : Nat → Option V} {D D2 : Ends} (P : PostS ER E0 pv (((body e2).bind fun f e3 => match f with
        | .nx => forLoop lk t body ds e3
        | .cnt => forLoop lk t body ds e3
        | .brk => if held lk e3 then .ok .nx e3 else .no
        | .ret r => if held lk e3 then .ok (.ret r) e3 else .no).bind fun f e => .ok f (unlockE lk e)) M F H D)
    (hU : ∀ σ' e3 F' H' fp', held lk e3 = true → Stt F' H' σ' e3 fp' pv2 → Stt F' H' σ' (unlockE lk e3) fp' pv)
    (hbk : ∀ σ' H', D.nx σ' H' → D2.bk σ' H') (hrt : ∀ v H', D.rt v H' → D2.rt v H')
    (hN : ∀ e3 σ' F' H' fp', Stt F' H' σ' e3 fp' pv2 → Step M F H (cov fp') F' H' → PostS ER E0 pv ((forLoop lk t body ds e3).bind fun f e => .ok f (unlockE lk e)) (cov fp') F' H' D → D2.nx σ' H' ∧ D2.ct σ' H') : PostS ER E0 pv2 (body e2) M F H D2 := by
  cases e : body e2 with
  | no => rw [e] at P; exact P
  | ex x => rw [e] at P; exact P
  | ok f e3 =>
    rw [e] at P
    cases f with
    | nx => exact fun σ' F' H' fp' S st => (hN e3 σ' F' H' fp' S st (P.step st)).1
    | cnt => exact fun σ' F' H' fp' S st => (hN e3 σ' F' H' fp' S st (P.step st)).2
    | brk =>
      intro σ' F' H' fp' S st
      simp only [Rs.bind_ok] at P
      by_cases hh : held lk e3 = true
      · rw [if_pos hh] at P
        exact hbk _ _ (P σ' F' H' fp' (hU σ' e3 F' H' fp' hh S) st)
      · rw [if_neg hh] at P; exact P.elim
    | ret r =>
      intro v σ' F' H' fp' A S st h n a
      simp only [Rs.bind_ok] at P
      by_cases hh : held lk e3 = true
      · rw [if_pos hh] at P
        exact hrt _ _ (P v σ' F' H' fp' A (hU σ' e3 F' H' fp' hh S) st h n a)
      · rw [if_neg hh] at P; exact P.elim
theorem case_for {t : Tg} {src : Ex} {b : Sm} {t' i' : Expr} {b' : List Stmt} {pos : Pos} (L : Locs N sc X) (hp : PassesOwn (model X.prog X.w) X.A X.env X.xe) (hg : badE i' = false) (hm : mTg N sc t t' = true) (hi : SI Φ ER (Wk E0) X src t' i') (hb : SB Φ Wn ER E0 X b b') :
    SS Φ Wn ER E0 X (.for_ t src b) (.For t' i' b' [] pos) := by
  intro env F H σ pv fp D S P
  unfold exc at P
  refine ⟨_, ps_for hp L.calm WI.pi WG.pg WB.pss (fold_good hg), ?_⟩
  refine hi env F H σ pv fp _ S (P.sp0 fun p e1 J F1 H1 fp1 A1 eo S1 st1 wk n1 ap1 P1 => ?_)
  obtain ⟨ds, lk⟩ := p
  have lo := evi_lk eo
  have S1' := lock_ok S1 lo
  have hU : ∀ σ' e3 F' H' fp', held lk e3 = true → Stt F' H' σ' e3 fp' (lockP lk σ pv) → Stt F' H' σ' (unlockE lk e3) fp' pv := fun σ' e3 F' H' fp' hh S' => unlock_ok S1 lo hh S'
  refine ⟨fun i m σ' H' => m = ds.length - i ∧ i ≤ ds.length ∧ ∃ env' F' fp', Sub F1 F' ∧ Stt F' H' σ' env' fp' (lockP lk σ pv) ∧ PostS ER E0 pv ((forLoop lk t (fun e => exc Φ Wn b e) (ds.drop i) env').bind fun f e => .ok f (unlockE lk e)) (cov fp') F' H' D,
    ⟨ds.length, rfl, Nat.zero_le _, lockE lk e1, F1, fp1, Sub.refl _, S1', P1.less fun b q => .inl q⟩, ?_⟩
  rintro i m σ' H' ⟨rfl, hle, env', F', fp', sub, S', P'⟩
  have at_lk : ∀ j s, (ds, lk).2 = some (j, s) → lockP lk σ pv j = slotV σ j := fun j s e => lockP_at e
  cases hd : ds[i]? with
  | none =>
    have hnil : ds.drop i = [] := List.drop_eq_nil_of_le (List.getElem?_eq_none_iff.1 hd)
    rw [hnil] at P'
    unfold forLoop at P'
    by_cases hh : held lk env' = true
    · rw [if_pos hh] at P'
      refine .inl ⟨(wk i F' H' σ' env' fp' _ sub S' hh at_lk).1 hd, ?_⟩
      exact P' σ' F' H' fp' (hU σ' env' F' H' fp' hh S') Step.refl
    · rw [if_neg hh] at P'; exact P'.elim
  | some d =>
    rw [drop_cons hd] at P'
    unfold forLoop at P'
    by_cases hh : held lk env' = true
    · rw [if_pos hh] at P'
      obtain ⟨go, yl⟩ := (wk i F' H' σ' env' fp' _ sub S' hh at_lk).2 d hd
      have hi' := (List.getElem?_eq_some_iff.1 hd).1
      refine .inr ⟨go, fun σ2 H2 => ∃ m', m' < ds.length - i ∧ (m' = ds.length - (i + 1) ∧ i + 1 ≤ ds.length ∧ ∃ env' F' fp', Sub F1 F' ∧ Stt F' H2 σ2 env' fp' (lockP lk σ pv) ∧ PostS ER E0 pv ((forLoop lk t (fun e => exc Φ Wn b e) (ds.drop (i + 1)) env').bind fun f e => .ok f (unlockE lk e)) (cov fp') F' H2 D),
        fun σ2 H2 ⟨m', h1, h2⟩ => ⟨m', h1, h2⟩, fun x H'' hy => ?_⟩
      obtain ⟨F2, st2, sub2, hx⟩ := yl x H'' hy
      have S2 := S'.prim st2 sub2 fun _ _ q => q
      cases ht : tgt t d env' with
      | none => simp only [ht] at P'; exact P'.elim
      | some e2 =>
        simp only [ht] at P'
        refine tg_ok L t t' hm S2 hx ht fun σ3 fp3 S3 c3 _ => ?_
        refine hb e2 F2 H'' σ3 _ fp3 _ S3 ?_
        have P2 : PostS ER E0 pv _ (cov fp3) F2 H'' D := (P'.step (st2.weak (fun _ q => q.elim) (fun b q => .inr (.inl (c3 b q)))))
        refine body_ok (body := fun e => exc Φ Wn b e) (lk := lk) (t := t) (ds := ds.drop (i + 1)) (e2 := e2) P2 hU (fun _ _ q => q) (fun _ _ q => q) fun e3 σ4 F4 H4 fp4 S4 st4 P4 => ?_
        have z : ∃ m', m' < ds.length - i ∧ (m' = ds.length - (i + 1) ∧ i + 1 ≤ ds.length ∧ ∃ env' F' fp', Sub F1 F' ∧ Stt F' H4 σ4 env' fp' (lockP lk σ pv) ∧ PostS ER E0 pv ((forLoop lk t (fun e => exc Φ Wn b e) (ds.drop (i + 1)) env').bind fun f e => .ok f (unlockE lk e)) (cov fp') F' H4 D) :=
          ⟨ds.length - (i + 1), by omega, rfl, hi', e3, F4, fp4, (sub.trans st2.sub).trans st4.sub, S4, P4⟩
        exact ⟨z, z⟩
    · rw [if_neg hh] at P'; exact P'.elim
theorem case_while {c : Ex} {b : Sm} {c' : Expr} {b' : List Stmt} {pos : Pos} (hp : PassesOwn (model X.prog X.w) X.A X.env X.xe) (hc : ST Φ ER (Wk E0) X c c') (hb : SB Φ Wn ER E0 X b b') :
    SS Φ Wn ER E0 X (.whl c b) (.While c' b' [] pos) := by
  intro env F H σ pv fp D S P
  unfold exc at P
  refine ⟨_, ps_while hp WT.pt WB.pss, ?_⟩
  refine ⟨fun m σ' H' => ∃ env' F' fp', Stt F' H' σ' env' fp' pv ∧ PostS ER E0 pv (whlLoop (fun e => evt Φ c e) (fun e => exc Φ Wn b e) m env') (cov fp') F' H' D, ⟨Wn, env, F, fp, S, P⟩, ?_⟩
  rintro m σ' H' ⟨env', F', fp', S', P'⟩
  cases m with
  | zero => unfold whlLoop at P'; exact P'.elim
  | succ m =>
    unfold whlLoop at P'
    refine hc env' F' H' σ' pv fp' _ S' (P'.sp0 fun bb e1 bv F1 H1 fp1 A1 eo S1 st1 r1 n1 ap1 P1 => ?_)
    cases r1
    cases bb with
    | false =>
      rw [if_neg (by simp)] at P1
      rw [if_neg (by simp)]
      exact P1 σ' F1 H1 fp1 S1 (Step.refl.weak (fun _ q => q) fun b q => .inl (.inl q))
    | true =>
      rw [if_pos rfl] at P1
      rw [if_pos rfl]
      refine ⟨fun σ2 H2 => ∃ m', m' < m + 1 ∧ ∃ env' F' fp', Stt F' H2 σ2 env' fp' pv ∧ PostS ER E0 pv (whlLoop (fun e => evt Φ c e) (fun e => exc Φ Wn b e) m' env') (cov fp') F' H2 D, fun σ2 H2 h => h, ?_⟩
      have P2 := P1.less (M' := cov fp1) fun b q => .inl q
      refine hb e1 F1 H1 σ' pv fp1 _ S1 ?_
      cases e : exc Φ Wn b e1 with
      | no => rw [e] at P2; exact P2
      | ex x => rw [e] at P2; exact P2
      | ok f e3 =>
        rw [e] at P2
        cases f with
        | nx => exact fun σ2 F2 H2 fp2 S2 st => ⟨m, Nat.lt_succ_self m, e3, F2, fp2, S2, P2.step st⟩
        | cnt => exact fun σ2 F2 H2 fp2 S2 st => ⟨m, Nat.lt_succ_self m, e3, F2, fp2, S2, P2.step st⟩
        | brk => exact fun σ2 F2 H2 fp2 S2 st => P2 σ2 F2 H2 fp2 S2 st
        | ret r => exact fun v σ2 F2 H2 fp2 A S2 st h n a => P2 v σ2 F2 H2 fp2 A S2 st h n a
end
end Mi
end
section
set_option Elab.async false
set_option linter.all false
set_option maxRecDepth 100000
namespace Mi
open PySem L2
theorem Rs.noex_bind {α β : Type} (o : Rs α) (f : α → Env → Rs β) : (o.bind f).noex = o.noex.bind fun a e => (f a e).noex := by cases o <;> rfl
section
variable {Φ : Calls} {Wn : Nat} {ER : Exn → Value → Option Addr → Hp → Hp → Prop} {E0 : WX} {E0' : XK} {X : Cx} {P : Program} {w : World} {K : Frag} {mg : Str → Option Value} {base : Heap} {k : Nat} {N : List Str} {sc : Scope} {C : Cfg}
variable {F H F' H' : Hp} {σ σ2 : L2.St} {env env' : Env} {fp : Nat → Addr → Prop} {pv pv2 : Nat → Option V} {M M0 A : Addr → Prop}
theorem Post.spN {α β γ δ : Type} {o : Rs α} {kk : α → Env → Rs γ} {R : Hp → Hp → (Addr → Prop) → δ → γ → Prop} {R1 : Hp → Hp → (Addr → Prop) → β → α → Prop} {Q : δ → Hp → Prop} {Q1 : β → Hp → Prop} (P : Post ER (atS E0 σ) σ pv (o.noex.bind kk) R M F H Q)
    (hM : ∀ b, M0 b → M b) (hA : ∀ b, A b → M b) (no : Nof F H A) (ap : Apart A M0)
    (h : ∀ a env' b F' H' fp' B, Stt F' H' σ2 env' fp' pv2 → Step M0 F H (or2 (cov fp') B) F' H' → R1 F' H' B b a → Nof F' H' B → Apart B (cov fp') → Nof F' H' A → Apart A (or2 (cov fp') B) →
      Post ER (atS E0 σ) σ pv (kk a env') R (or2 (or2 (cov fp') B) A) F' H' Q → Q1 b H') : Post ER E0' σ2 pv2 o R1 M0 F H Q1 := by
  cases o with
  | no => exact P.elim
  | ex x => exact P.elim
  | ok a env =>
    intro b G J fp B S s2 r n ap2
    refine h a env b G J fp B S s2 r n ap2 (no.step s2 ap) (Apart.step no s2 ap) ?_
    exact Post.step P (s2.weak hM fun b z => by
      rcases z with z | z
      · exact .inl z
      · exact .inr (.inl (hA b z)))
/-! ### the slots of a block -/
theorem wipe_out' {i : Nat} : ∀ {vs : List Nat}, i ∉ vs → (wipe σ vs)[i]? = σ[i]?
  | [], _ => rfl
  | v :: vs, h => by
    have hv : v ≠ i := fun e => h (by rw [e]; exact List.mem_cons_self)
    unfold wipe
    rw [List.getElem?_set_ne hv, wipe_out' fun m => h (List.mem_cons_of_mem _ m)]
theorem wipe_sub {vs : List Nat} : ∀ {us : List Nat}, (∀ u ∈ us, u ∈ vs) → wipe (wipe σ us) vs = wipe σ vs
  | [], _ => rfl
  | u :: us, h => by
    show wipe ((wipe σ us).set u none) vs = _
    rw [wipe_set (h u List.mem_cons_self), wipe_sub fun v hv => h v (List.mem_cons_of_mem _ hv)]
theorem wipe_idem {vs : List Nat} : wipe (wipe σ vs) vs = wipe σ vs := wipe_sub fun _ h => h
theorem wipes_len : ∀ {vs : List Nat}, (wipes env vs).length = env.length
  | [] => rfl
  | v :: vs => by unfold wipes; rw [List.length_set, wipes_len]
theorem wipes_out {i : Nat} : ∀ {vs : List Nat}, i ∉ vs → (wipes env vs)[i]? = env[i]?
  | [], _ => rfl
  | v :: vs, h => by
    have hv : v ≠ i := fun e => h (by rw [e]; exact List.mem_cons_self)
    unfold wipes
    rw [List.getElem?_set_ne hv, wipes_out fun m => h (List.mem_cons_of_mem _ m)]
theorem wipes_in {i : Nat} {s : SV} : ∀ {vs : List Nat}, i ∈ vs → (wipes env vs)[i]? = some s → s = .un
  | v :: vs, h, e => by
    unfold wipes at e
    rcases set_get e with ⟨_, h2, _⟩ | ⟨ne, h2⟩
    · exact h2
    · refine wipes_in (List.mem_of_ne_of_mem (fun q => ne q.symm) h) h2
theorem undo_len {old : Env} : ∀ {vs : List Nat}, (undo old env vs).length = env.length
  | [] => rfl
  | v :: vs => by unfold undo; rw [List.length_set, undo_len]
theorem undo_out {old : Env} {i : Nat} : ∀ {vs : List Nat}, i ∉ vs → (undo old env vs)[i]? = env[i]?
  | [], _ => rfl
  | v :: vs, h => by
    have hv : v ≠ i := fun e => h (by rw [e]; exact List.mem_cons_self)
    unfold undo
    rw [List.getElem?_set_ne hv, undo_out fun m => h (List.mem_cons_of_mem _ m)]
theorem undo_in {old : Env} {i : Nat} {s : SV} : ∀ {vs : List Nat}, i ∈ vs → (undo old env vs)[i]? = some s → s = old.getD i .un
  | v :: vs, h, e => by
    unfold undo at e
    rcases set_get e with ⟨h1, h2, _⟩ | ⟨ne, h2⟩
    · rw [h2, h1]
    · exact undo_in (List.mem_of_ne_of_mem (fun q => ne q.symm) h) h2
theorem dull_at {vs : List Nat} (h : dull env vs = true) {i : Nat} (hi : i ∈ vs) : env.getD i .un = .un ∨ ∃ d, env.getD i .un = .fz d ∧ env[i]? = some (.fz d) := by
  unfold dull at h
  have := List.all_eq_true.1 h i hi
  cases e : env[i]? with
  | none => rw [e] at this; cases this
  | some s =>
    rw [e] at this
    have e2 : env.getD i .un = s := by rw [List.getD_eq_getElem?_getD, e]; rfl
    rw [e2]
    cases s with
    | un => exact .inl rfl
    | fz d => exact .inr ⟨d, rfl, rfl⟩
    | ow n d => cases this
    | pn n d => cases this
def outs (fp : Nat → Addr → Prop) (vs : List Nat) : Nat → Addr → Prop := fun i b => i ∉ vs ∧ fp i b
theorem outs_cov {vs : List Nat} {b : Addr} (h : cov (outs fp vs) b) : cov fp b := by
  obtain ⟨i, _, q⟩ := h; exact ⟨i, q⟩
theorem slot_cov {A B : Addr → Prop} {ov : Option V} {s : SV} (cv : ∀ b, A b → B b) (h : SlotOk F H A ov s) : SlotOk F H B ov s := by
  cases s with
  | un => trivial
  | fz d => exact h
  | ow n d => obtain ⟨w, e1, h⟩ := h; exact ⟨w, e1, Own.mono (Sub.refl _) cv (fun b u _ x => x) h⟩
  | pn n d => obtain ⟨w, e1, h⟩ := h; exact ⟨w, e1, Own.mono (Sub.refl _) cv (fun b u _ x => x) h⟩
theorem wipe_stt {vs : List Nat} (S : Stt F H σ env fp pv) : Stt F H (wipe σ vs) (wipes env vs) (outs fp vs) pv where
  sub := S.sub
  len := by rw [wipe_length, wipes_len]; exact S.len
  sl := fun i s e => by
    by_cases hi : i ∈ vs
    · rw [wipes_in hi e]; trivial
    · rw [wipes_out hi] at e
      rw [wipe_out' hi]
      exact slot_cov (fun b x => ⟨hi, x⟩) (S.sl i s e)
  dis := fun i j b x y => S.dis i j b x.2 y.2
  nof := fun b q => S.nof b (outs_cov q)
  pin := fun i n d e => by
    by_cases hi : i ∈ vs
    · cases wipes_in hi e
    · rw [wipes_out hi] at e
      rw [wipe_out' hi]; exact S.pin i n d e
/-- behind a block: its slots as they stood, the others as they stand -/
theorem undo_stt {vs : List Nat} {F1 H1 : Hp} {fp1 : Nat → Addr → Prop} {e1 : Env} (S1 : Stt F1 H1 σ e1 fp1 pv) (hd : dull e1 vs = true) (sub : Sub F1 F) (S : Stt F H (wipe σ vs) (wipes env vs) fp pv2) : Stt F H σ (undo e1 env vs) (outs fp vs) pv2 where
  sub := S.sub
  len := by
    have := S.len
    rw [wipe_length, wipes_len] at this
    rw [undo_len]; exact this
  sl := fun i s e => by
    by_cases hi : i ∈ vs
    · have es := undo_in hi e
      rcases dull_at hd hi with h | ⟨d, h, h'⟩
      · rw [es, h]; trivial
      · rw [es, h]
        obtain ⟨w, hw, ha⟩ := S1.fzn h'
        exact ⟨w, by rw [hw]; rfl, ha.mono sub⟩
    · rw [undo_out hi] at e
      have e' : (wipes env vs)[i]? = some s := by rw [wipes_out hi]; exact e
      have z := S.sl i s e'
      rw [wipe_out' hi] at z
      exact slot_cov (fun b x => ⟨hi, x⟩) z
  dis := fun i j b x y => S.dis i j b x.2 y.2
  nof := fun b q => S.nof b (outs_cov q)
  pin := fun i n d e => by
    by_cases hi : i ∈ vs
    · have es := undo_in hi e
      rcases dull_at hd hi with h | ⟨d, h, h'⟩
      · rw [h] at es; cases es
      · rw [h] at es; cases es
    · rw [undo_out hi] at e
      have e' : (wipes env vs)[i]? = some (.pn n d) := by rw [wipes_out hi]; exact e
      have z := S.pin i n d e'
      rw [wipe_out' hi] at z; exact z
theorem lk_out {vs : List Nat} {lk : Option (Nat × SV)} (h : lkOk env lk) (hd : dull env vs = true) : ∀ j s, lk = some (j, s) → j ∉ vs := fun j s e hj => by
  obtain ⟨h1, n, d, h2⟩ := h j s e
  rcases dull_at hd hj with q | ⟨d', q, q'⟩
  · have : env.getD j .un = s := by rw [List.getD_eq_getElem?_getD, h1]; rfl
    rw [q] at this; subst this; cases h2
  · rw [h1] at q'; cases q'; cases h2
theorem held_wipes {vs : List Nat} {lk : Option (Nat × SV)} (h : ∀ j s, lk = some (j, s) → j ∉ vs) : held lk (wipes env vs) = held lk env := by
  cases lk with
  | none => rfl
  | some p =>
    obtain ⟨j, s⟩ := p
    show ((wipes env vs)[j]? == some (pinS s)) = (env[j]? == some (pinS s))
    rw [wipes_out (h j s rfl)]
theorem held_undo {vs : List Nat} {old : Env} {lk : Option (Nat × SV)} (h : ∀ j s, lk = some (j, s) → j ∉ vs) : held lk (undo old env vs) = held lk env := by
  cases lk with
  | none => rfl
  | some p =>
    obtain ⟨j, s⟩ := p
    show ((undo old env vs)[j]? == some (pinS s)) = (env[j]? == some (pinS s))
    rw [undo_out (h j s rfl)]
/-! ### list comprehensions -/
def SC (Φ : Calls) (ER : Exn → Value → Option Addr → Hp → Hp → Prop) (E0 : WX) (X : Cx) (c : Option Ex) (ifs : List Expr) : Prop := ∀ (env : Env) (F H : Hp) (σ : L2.St) (pv : Nat → Option V) (fp : Nat → Addr → Prop) (Q : Bool → Hp → Prop), Stt F H σ env fp pv → Post ER (atS E0 σ) σ pv (evc Φ c env) Eq1 (cov fp) F H Q → ∃ t, PTs X ifs t ∧ t σ H Q
theorem WCs.pts {ifs : List Expr} : PTs X ifs (fun σ H Q => ∃ t, PTs X ifs t ∧ t σ H Q) := ⟨fun pins s σ H Q I ⟨_, h, q⟩ => h.run pins s σ H Q I q⟩
theorem caseC_none : SC Φ ER E0 X none [] := by
  intro env F H σ pv fp Q S P
  unfold evc at P
  exact ⟨_, pts_nil, P true F H fp none1 S (step_ref (A := none1)) rfl (fun _ z => z.elim) (fun _ z => z.elim)⟩
theorem caseC_some {c : Ex} {c' : Expr} (h : ST Φ ER E0 X c c') : SC Φ ER E0 X (some c) [c'] := by
  intro env F H σ pv fp Q S P
  unfold evc at P
  exact ⟨_, pts_one WT.pt, h env F H σ pv fp Q S P⟩
abbrev noE : WX := fun _ _ _ _ => False
theorem cell_keep {D : Addr} {o : HO} (no : Nof F H (fun b => b = D)) (st : Step M F H A F' H') (ap : Apart (fun b => b = D) M) (h : H D = some o) : H' D = some o := st.keep D o h fun m => ap D rfl m
/-- the readings of a block's parts, whatever the block's frame -/
abbrev lcG (X : Cx) (scope : Scope) (tg' : Expr) : TG := fun v σ H Q => ∀ s H0 C cl fp, WG (X.blk s H0 scope (compEnvC scope cl C X.env) fp) tg' v σ H Q
abbrev lcT (X : Cx) (scope : Scope) (ifs' : List Expr) : TT := fun σ H Q => ∀ s H0 C cl fp, ∃ t, PTs (X.blk s H0 scope (compEnvC scope cl C X.env) fp) ifs' t ∧ t σ H Q
abbrev lcE (X : Cx) (scope : Scope) (e' : Expr) : TE := fun σ H Q => ∀ s H0 C cl fp, WE (X.blk s H0 scope (compEnvC scope cl C X.env) fp) e' σ H Q
theorem lcG_ok {scope : Scope} {tg' : Expr} (s : Shared) (H : Hp) (C : Addr) (cl : List (Str × Addr)) (fp : List Addr) : PG (X.blk s H scope (compEnvC scope cl C X.env) fp) tg' (lcG X scope tg') :=
  ⟨fun pins s' σ H' v u Q I r h => WG.pg.run pins s' σ H' v u Q I r (h s H C cl fp)⟩
theorem lcT_ok {scope : Scope} {ifs' : List Expr} (s : Shared) (H : Hp) (C : Addr) (cl : List (Str × Addr)) (fp : List Addr) : PTs (X.blk s H scope (compEnvC scope cl C X.env) fp) ifs' (lcT X scope ifs') :=
  ⟨fun pins s' σ H' Q I h => WCs.pts.run pins s' σ H' Q I (h s H C cl fp)⟩
theorem lcE_ok {scope : Scope} {e' : Expr} (s : Shared) (H : Hp) (C : Addr) (cl : List (Str × Addr)) (fp : List Addr) : PE (X.blk s H scope (compEnvC scope cl C X.env) fp) e' (lcE X scope e') :=
  ⟨fun pins s' σ H' Q I h => WE.pe.run pins s' σ H' Q I (h s H C cl fp)⟩
theorem read_lcp {own : List (Str × Nat)} {tg : Tg} {src : Ex} {c : Option Ex} {e : Ex} {e' tg' it' : Expr} {ifs' : List Expr} {scope : Scope} (hc : X.calm = true) (hN : X.N.Nodup) (hblk : BlkOk X.N X.env.scope scope own)
    (hin : tgIn (own.map (·.2)) tg = true) (hm : mTg N scope tg tg' = true) (hgi : badE it' = false) (hi : SI Φ ER E0 X src tg' it')
    (LB : ∀ s H C cl fp, Locs N scope (X.blk s H scope (compEnvC scope cl C X.env) fp)) (hcd : ∀ s H C cl fp, SC Φ ER noE (X.blk s H scope (compEnvC scope cl C X.env) fp) c ifs') (he : ∀ s H C cl fp, SE Φ ER noE (X.blk s H scope (compEnvC scope cl C X.env) fp) e e') :
    SR Φ ER E0 (.lcp own tg src c e) (tLc (WI X tg' it') (lcG X scope tg') (lcT X scope ifs') (lcE X scope e') (own.map (·.2))) := by
  intro env F H σ pv fp Q S P
  unfold ev at P
  cases eo : evi Φ src env with
  | no => rw [eo] at P; exact P.elim
  | ex x => exact hi env F H σ pv fp _ S (by rw [eo] at P ⊢; exact P)
  | ok p e1 =>
  obtain ⟨ds, lk⟩ := p
  refine hi env F H σ pv fp _ S ?_
  rw [eo]
  rw [eo, Rs.bind_ok] at P
  intro J F1 H1 fp1 A1 S1 st1 wk n1 ap1
  have P1 := (Post.step P st1).less (M' := cov fp1) fun b q => .inl q
  by_cases hd : dull e1 (own.map (·.2)) = true
  · rw [if_pos hd] at P1
    have lo := evi_lk eo
    have hout := lk_out lo hd
    generalize hvs : own.map (·.2) = vs at *
    have S1' := wipe_stt (vs := vs) (lock_ok S1 lo)
    have at_lk : ∀ j s, (ds, lk).2 = some (j, s) → lockP lk σ pv j = slotV σ j := fun j s e => lockP_at e
    have wk' : Walks F1 σ J (ds, lk) := wk
    intro Da hD
    have hFD : F1 Da = none := S1.sub.no hD
    generalize hturn : (fun d en => match tgt tg d (wipes en vs) with
        | some en2 => (evc Φ c en2).bind fun b en3 => if b then (ev Φ e en3).bind fun r en4 => (match keep en4 r with
            | some (x, en5) => Rs.ok (some x) en5
            | none => .no) else .ok none en3
        | none => .no) = turn at P1
    refine ⟨fun i m H' => m = ds.length - i ∧ i ≤ ds.length ∧ ∃ env' F' fp' acc accD, Sub F1 F' ∧ Stt F' H' (wipe σ vs) (wipes env' vs) fp' (lockP lk σ pv) ∧ H' Da = some (.lst acc) ∧ F' Da = none ∧ ¬ cov fp' Da ∧ AtL F' acc accD ∧
        Post ER (atS E0 σ) σ pv ((lcLoop lk turn (ds.drop i) accD env').noex.bind fun ds e2 => .ok (.ow 1 (.lst ds)) (unlockE lk (undo e1 e2 vs))) (RV1 σ) (or2 (cov fp') fun b => b = Da) F' H' Q, ?_, ?_⟩
    · refine ⟨ds.length, rfl, Nat.zero_le _, lockE lk e1, F1, outs fp1 vs, [], [], Sub.refl _, S1'.prim (step_new hD S1.sub) (S1.sub.putR hFD) (fun _ _ q => q), upd_same, hFD, ?_, .nil, ?_⟩
      · intro q
        obtain ⟨_, u, z⟩ := S1.nof Da (outs_cov q)
        rw [hD] at z; cases z
      · rw [List.drop_zero]
        refine Post.less (M' := or2 (cov (outs fp1 vs)) fun b => b = Da) (Post.step P1 ((step_new (o := .lst []) hD S1.sub).weak (N' := or2 (cov fp1) fun b => b = Da) (fun _ q => q.elim) fun b q => ?_)) fun b q => ?_
        · rcases q with q | q
          · exact .inr (.inl q)
          · exact .inl q
        · rcases q with q | q
          · exact .inl (outs_cov q)
          · exact .inr q
    · rintro i m H' ⟨rfl, hle, env', F', fp', acc, accD, sub, S', hDl, hDF, hDc, tacc, P'⟩
      have nD : Nof F' H' (fun b => b = Da) := fun b q => by rw [q]; exact ⟨hDF, _, hDl⟩
      have aD : Apart (fun b => b = Da) (cov fp') := fun b q z => hDc (by rw [← q]; exact z)
      have hw : held lk (wipes env' vs) = held lk env' := held_wipes hout
      cases hdd : ds[i]? with
      | none =>
        have hnil : ds.drop i = [] := List.drop_eq_nil_of_le (List.getElem?_eq_none_iff.1 hdd)
        rw [hnil] at P'
        unfold lcLoop at P'
        by_cases hh : held lk env' = true
        · rw [if_pos hh] at P'
          refine .inl ⟨(wk' i F' H' _ _ fp' _ sub S' (by rw [hw]; exact hh) at_lk).1 hdd, ?_⟩
          have Su := unlock_ok S1 lo (by rw [held_undo hout]; exact hh) (undo_stt (pv2 := lockP lk σ pv) S1 hd sub S')
          refine P' (.ref Da) F' H' _ (fun b => b = Da) Su (Step.refl.weak (fun _ q => q) fun b q => ?_) ⟨Da, acc, rfl, rfl, hDl, kids1.2 tacc⟩ nD (fun b x y => aD b x (outs_cov y))
          rcases q with q | q
          · exact .inl (.inl (outs_cov q))
          · exact .inl (.inr q)
        · rw [if_neg hh] at P'; exact P'.elim
      | some d =>
        rw [drop_cons hdd] at P'
        unfold lcLoop at P'
        by_cases hh : held lk env' = true
        · rw [if_pos hh] at P'
          obtain ⟨go, yl⟩ := (wk' i F' H' _ _ fp' _ sub S' (by rw [hw]; exact hh) at_lk).2 d hdd
          have hi' := (List.getElem?_eq_some_iff.1 hdd).1
          refine .inr ⟨go, fun H2 => ∃ m', m' < ds.length - i ∧ (m' = ds.length - (i + 1) ∧ i + 1 ≤ ds.length ∧ ∃ env' F' fp' acc accD, Sub F1 F' ∧ Stt F' H2 (wipe σ vs) (wipes env' vs) fp' (lockP lk σ pv) ∧ H2 Da = some (.lst acc) ∧ F' Da = none ∧ ¬ cov fp' Da ∧ AtL F' acc accD ∧
              Post ER (atS E0 σ) σ pv ((lcLoop lk turn (ds.drop (i + 1)) accD env').noex.bind fun ds e2 => .ok (.ow 1 (.lst ds)) (unlockE lk (undo e1 e2 vs))) (RV1 σ) (or2 (cov fp') fun b => b = Da) F' H2 Q), fun H2 h => h, fun x H'' hy => ?_⟩
          obtain ⟨F2, st2, sub2, hx⟩ := yl x H'' hy
          have S2 := S'.prim st2 sub2 fun _ _ q => q
          have nD2 := nD.step st2 fun _ _ q => q
          have hDl2 : H'' Da = some (.lst acc) := st2.keep Da _ hDl fun q => q
          have tacc2 := tacc.mono st2.sub
          rw [← hturn] at P'
          dsimp only at P'
          rw [hturn] at P'
          cases ht : tgt tg d (wipes env' vs) with
          | none => simp only [ht] at P'; exact P'.elim
          | some e2 =>
            simp only [ht] at P'
            intro s0 H0 C0 cl0 fp0
            refine tg_ok (LB s0 H0 C0 cl0 fp0) tg tg' hm S2 hx ht fun σ3 fp3 S3 c3 w3 => ⟨(w3 vs hin).trans wipe_idem, fun s0 H0 C0 cl0 fp0 => ?_⟩
            rw [Rs.bind_assoc, Rs.noex_bind, Rs.bind_assoc] at P'
            have P2 : Post ER (atS E0 σ) σ pv _ (RV1 σ) (or2 (cov fp3) fun b => b = Da) F2 H'' Q := (Post.step P' (st2.weak (N' := or2 (cov fp') fun b => b = Da) (fun _ q => q.elim) fun b q => .inr (.inl q))).less (fun b q => by
              rcases q with q | q
              · exact .inl (c3 b q)
              · exact .inr q)
            have aD3 : Apart (fun b => b = Da) (cov fp3) := fun b q z => aD b q (c3 b z)
            refine hcd s0 H0 C0 cl0 fp0 e2 F2 H'' σ3 (lockP lk σ pv) fp3 _ S3 (P2.spN (M0 := cov fp3) (A := fun b => b = Da) (fun b q => .inl q) (fun b q => .inr q) nD2 aD3 fun bb e3 bv F3 H3 fp4 B4 S4 st4 r4 n4 ap4 nD4 aD4 P4 => ?_)
            cases r4
            have hDl3 := cell_keep nD2 st4 aD3 hDl2
            have tacc3 := tacc2.mono st4.sub
            have fin : ∀ (e5 : Env) (F5 H5 : Hp) (fp5 : Nat → Addr → Prop) (acc5 : List V) (accD5 : List D), Sub F1 F5 → Stt F5 H5 σ3 e5 fp5 (lockP lk σ pv) → H5 Da = some (.lst acc5) → F5 Da = none → ¬ cov fp5 Da → AtL F5 acc5 accD5 →
                Post ER (atS E0 σ) σ pv ((lcLoop lk turn (ds.drop (i + 1)) accD5 e5).noex.bind fun ds e2 => .ok (.ow 1 (.lst ds)) (unlockE lk (undo e1 e2 vs))) (RV1 σ) (or2 (cov fp5) fun b => b = Da) F5 H5 Q →
                ∃ m', m' < ds.length - i ∧ (m' = ds.length - (i + 1) ∧ i + 1 ≤ ds.length ∧ ∃ env' F' fp' acc accD, Sub F1 F' ∧ Stt F' H5 (wipe σ vs) (wipes env' vs) fp' (lockP lk σ pv) ∧ H5 Da = some (.lst acc) ∧ F' Da = none ∧ ¬ cov fp' Da ∧ AtL F' acc accD ∧
              Post ER (atS E0 σ) σ pv ((lcLoop lk turn (ds.drop (i + 1)) accD env').noex.bind fun ds e2 => .ok (.ow 1 (.lst ds)) (unlockE lk (undo e1 e2 vs))) (RV1 σ) (or2 (cov fp') fun b => b = Da) F' H5 Q) := by
              intro e5 F5 H5 fp5 acc5 accD5 sub5 S5 h1 h2 h3 t5 P5
              have Sw := wipe_stt (vs := vs) S5
              rw [(w3 vs hin).trans wipe_idem] at Sw
              refine ⟨_, by omega, rfl, hi', e5, F5, outs fp5 vs, acc5, accD5, sub5, Sw, h1, h2, fun q => h3 (outs_cov q), t5, P5.less fun b q => ?_⟩
              rcases q with q | q
              · exact .inl (outs_cov q)
              · exact .inr q
            have sub3 : Sub F1 F3 := (sub.trans st2.sub).trans st4.sub
            have hDF3 : F3 Da = none := (nD4 Da rfl).1
            have hDc3 : ¬ cov fp4 Da := fun q => aD4 Da rfl (.inl q)
            cases bb with
            | false =>
              simp only [Bool.false_eq_true, if_false, Rs.bind_ok] at P4 ⊢
              exact fin e3 F3 H3 fp4 acc accD sub3 S4 hDl3 hDF3 hDc3 tacc3 (P4.less fun b q => by
                rcases q with q | q
                · exact .inl (.inl q)
                · exact .inr q)
            | true =>
              simp only [if_true] at P4 ⊢
              intro s0 H0 C0 cl0 fp0
              rw [Rs.bind_assoc, Rs.noex_bind, Rs.bind_assoc] at P4
              have aD4' : Apart (fun b => b = Da) (cov fp4) := fun b q z => aD4 b q (.inl z)
              have P4' := P4.less (M' := or2 (cov fp4) fun b => b = Da) fun b q => by
                rcases q with q | q
                · exact .inl (.inl q)
                · exact .inr q
              refine he s0 H0 C0 cl0 fp0 e3 F3 H3 σ3 (lockP lk σ pv) fp4 _ S4 (P4'.spN (M0 := cov fp4) (A := fun b => b = Da) (fun b q => .inl q) (fun b q => .inr q) nD4 aD4' fun rv e4 yv F4 H4 fp5 B5 S5 st5 r5 n5 ap5 nD5 aD5 P5 => ?_)
              have hDl4 := cell_keep nD4 st5 aD4' hDl3
              cases ek : keep e4 rv with
              | none => simp only [ek] at P5; exact P5.elim
              | some q =>
                obtain ⟨xd, e5⟩ := q
                simp only [ek, Rs.bind_ok] at P5
                obtain ⟨F6, fp6, S6, st6, hx6⟩ := keep_ok S5 r5 n5 ap5 ek
                have aD6 : Apart (fun b => b = Da) (or2 (cov fp5) B5) := aD5
                have nD6 := nD5.step st6 aD6
                have apD6 : Apart (fun b => b = Da) (cov fp6) := Apart.step nD5 st6 aD6
                by_cases hlen : accD.length < lim
                · rw [if_pos hlen] at P5
                  refine ⟨acc, hDl4, by rw [tacc.length]; exact hlen, ?_⟩
                  have stw : Step (fun b => b = Da) F6 H4 (fun b => b = Da) F6 (upd H4 Da (.lst (acc ++ [yv]))) := ⟨Sub.refl _, fun _ _ q => .inl q, fun b u q n => by rw [upd_ne n]; exact q, fun b q => .inl q, fun b q => by
                    by_cases e : b = Da
                    · rw [e, upd_same] at q; cases q
                    · rw [upd_ne e] at q; exact q⟩
                  have subw : Sub F6 (upd H4 Da (.lst (acc ++ [yv]))) := S6.sub.putR (nD6 Da rfl).1
                  refine fin e5 F6 _ fp6 (acc ++ [yv]) (accD ++ [xd]) ((sub3.trans st5.sub).trans st6.sub) (S6.prim stw subw apD6.symm) upd_same (nD6 Da rfl).1 (fun q => apD6 Da rfl q) ((tacc3.mono (st5.sub.trans st6.sub)).append (.cons hx6 .nil)) ?_
                  refine Post.step (Post.step P5 (st6.weak (N' := or2 (cov fp6) fun b => b = Da) (fun b q => .inl q) fun b q => ?_)) (stw.weak (N' := or2 (cov fp6) fun b => b = Da) (fun b q => .inr q) fun b q => ?_)
                  · rcases q with q | q
                    · exact .inl q
                    · exact .inr (.inl (.inr q))
                  · exact .inr (.inl q)
                · rw [if_neg hlen] at P5; exact P5.elim
        · rw [if_neg hh] at P'; exact P'.elim
  · rw [if_neg hd] at P1; exact P1.elim
theorem case_lcp {own : List (Str × Nat)} {tg : Tg} {src : Ex} {c : Option Ex} {e : Ex} {e' tg' it' : Expr} {ifs' : List Expr} {scope : Scope} {pos : Pos} (hc : X.calm = true) (hN : X.N.Nodup) (hblk : BlkOk X.N X.env.scope scope own)
    (hin : tgIn (own.map (·.2)) tg = true) (hm : mTg N scope tg tg' = true) (hgi : badE it' = false) (hi : SI Φ ER E0 X src tg' it')
    (LB : ∀ s H C cl fp, Locs N scope (X.blk s H scope (compEnvC scope cl C X.env) fp)) (hcd : ∀ s H C cl fp, SC Φ ER noE (X.blk s H scope (compEnvC scope cl C X.env) fp) c ifs') (he : ∀ s H C cl fp, SE Φ ER noE (X.blk s H scope (compEnvC scope cl C X.env) fp) e e') :
    SE Φ ER E0 X (.lcp own tg src c e) (.ListComp e' [⟨tg', it', ifs', 0⟩] scope pos) :=
  fun env F H σ pv fp Q S P => wE (pe_lc hc hN WI.pi hblk lcG_ok lcT_ok lcE_ok (fold_good hgi)) (read_lcp hc hN hblk hin hm hgi hi LB hcd he env F H σ pv fp Q S P)
end
end Mi
end
section
set_option Elab.async false
set_option linter.all false
set_option maxRecDepth 100000
namespace Mi
open PySem L2
section
variable {Φ : Calls} {Wn : Nat} {ER : Exn → Value → Option Addr → Hp → Hp → Prop} {E0 : WX} {E0' : XK} {X : Cx} {P : Program} {w : World} {K : Frag} {mg : Str → Option Value} {base : Heap} {k : Nat} {N : List Str} {sc : Scope} {C : Cfg}
variable {F H F' H' : Hp} {σ σ2 : L2.St} {env env' : Env} {fp : Nat → Addr → Prop} {pv pv2 : Nat → Option V} {M M0 A : Addr → Prop}
def AccD (F : Hp) (acc : List (Key × V)) (p : List Key × List D) : Prop := acc.map (·.1) = p.1 ∧ AtL F (acc.map (·.2)) p.2
theorem AccD.mono {acc : List (Key × V)} {p : List Key × List D} (s : Sub F F') (h : AccD F acc p) : AccD F' acc p := ⟨h.1, h.2.mono s⟩
theorem read_dcp {own : List (Str × Nat)} {tg : Tg} {src : Ex} {c : Option Ex} {ke e : Ex} {k' e' tg' it' : Expr} {ifs' : List Expr} {scope : Scope} (hc : X.calm = true) (hN : X.N.Nodup) (hblk : BlkOk X.N X.env.scope scope own)
    (hin : tgIn (own.map (·.2)) tg = true) (hm : mTg N scope tg tg' = true) (hgi : badE it' = false) (hi : SI Φ ER E0 X src tg' it')
    (LB : ∀ s H C cl fp, Locs N scope (X.blk s H scope (compEnvC scope cl C X.env) fp)) (hcd : ∀ s H C cl fp, SC Φ ER noE (X.blk s H scope (compEnvC scope cl C X.env) fp) c ifs') (hk : ∀ s H C cl fp, SE Φ ER noE (X.blk s H scope (compEnvC scope cl C X.env) fp) ke k') (he : ∀ s H C cl fp, SE Φ ER noE (X.blk s H scope (compEnvC scope cl C X.env) fp) e e') :
    SR Φ ER E0 (.dcp own tg src c ke e) (tDc (WI X tg' it') (lcG X scope tg') (lcT X scope ifs') (lcE X scope k') (lcE X scope e') (own.map (·.2))) := by
  intro env F H σ pv fp Q S P
  unfold ev at P
  cases eo : evi Φ src env with
  | no => rw [eo] at P; exact P.elim
  | ex x => exact hi env F H σ pv fp _ S (by rw [eo] at P ⊢; exact P)
  | ok p e1 =>
  obtain ⟨ds, lk⟩ := p
  refine hi env F H σ pv fp _ S ?_
  rw [eo]
  rw [eo, Rs.bind_ok] at P
  intro J F1 H1 fp1 A1 S1 st1 wk n1 ap1
  have P1 := (Post.step P st1).less (M' := cov fp1) fun b q => .inl q
  by_cases hd : dull e1 (own.map (·.2)) = true
  · rw [if_pos hd] at P1
    have lo := evi_lk eo
    have hout := lk_out lo hd
    generalize hvs : own.map (·.2) = vs at *
    have S1' := wipe_stt (vs := vs) (lock_ok S1 lo)
    have at_lk : ∀ j s, (ds, lk).2 = some (j, s) → lockP lk σ pv j = slotV σ j := fun j s e => lockP_at e
    have wk' : Walks F1 σ J (ds, lk) := wk
    intro Da hD
    have hFD : F1 Da = none := S1.sub.no hD
    generalize hturn : (fun d en => match tgt tg d (wipes en vs) with
        | some en2 => (evc Φ c en2).bind fun b en3 => if b then (ev Φ ke en3).bind fun rk en4 => (match rk with
            | .fz kd => (match kd.key with
              | some k => (ev Φ e en4).bind fun r en5 => (match keep en5 r with
                | some (x, en6) => Rs.ok (some (k, x)) en6
                | none => .no)
              | none => .no)
            | _ => .no) else .ok none en3
        | none => .no) = turn at P1
    refine ⟨fun i m H' => m = ds.length - i ∧ i ≤ ds.length ∧ ∃ env' F' fp' acc accD, Sub F1 F' ∧ Stt F' H' (wipe σ vs) (wipes env' vs) fp' (lockP lk σ pv) ∧ H' Da = some (.dK acc) ∧ F' Da = none ∧ ¬ cov fp' Da ∧ AccD F' acc accD ∧
        Post ER (atS E0 σ) σ pv ((dcLoop lk turn (ds.drop i) accD env').noex.bind fun ds e2 => .ok (.ow 1 (.dk ds.1 ds.2)) (unlockE lk (undo e1 e2 vs))) (RV1 σ) (or2 (cov fp') fun b => b = Da) F' H' Q, ?_, ?_⟩
    · refine ⟨ds.length, rfl, Nat.zero_le _, lockE lk e1, F1, outs fp1 vs, [], ([], []), Sub.refl _, S1'.prim (step_new hD S1.sub) (S1.sub.putR hFD) (fun _ _ q => q), upd_same, hFD, ?_, ⟨rfl, .nil⟩, ?_⟩
      · intro q
        obtain ⟨_, u, z⟩ := S1.nof Da (outs_cov q)
        rw [hD] at z; cases z
      · rw [List.drop_zero]
        refine Post.less (M' := or2 (cov (outs fp1 vs)) fun b => b = Da) (Post.step P1 ((step_new (o := .dK []) hD S1.sub).weak (N' := or2 (cov fp1) fun b => b = Da) (fun _ q => q.elim) fun b q => ?_)) fun b q => ?_
        · rcases q with q | q
          · exact .inr (.inl q)
          · exact .inl q
        · rcases q with q | q
          · exact .inl (outs_cov q)
          · exact .inr q
    · rintro i m H' ⟨rfl, hle, env', F', fp', acc, accD, sub, S', hDl, hDF, hDc, tacc, P'⟩
      have nD : Nof F' H' (fun b => b = Da) := fun b q => by rw [q]; exact ⟨hDF, _, hDl⟩
      have aD : Apart (fun b => b = Da) (cov fp') := fun b q z => hDc (by rw [← q]; exact z)
      have hw : held lk (wipes env' vs) = held lk env' := held_wipes hout
      cases hdd : ds[i]? with
      | none =>
        have hnil : ds.drop i = [] := List.drop_eq_nil_of_le (List.getElem?_eq_none_iff.1 hdd)
        rw [hnil] at P'
        unfold dcLoop at P'
        by_cases hh : held lk env' = true
        · rw [if_pos hh] at P'
          refine .inl ⟨(wk' i F' H' _ _ fp' _ sub S' (by rw [hw]; exact hh) at_lk).1 hdd, ?_⟩
          have Su := unlock_ok S1 lo (by rw [held_undo hout]; exact hh) (undo_stt (pv2 := lockP lk σ pv) S1 hd sub S')
          refine P' (.ref Da) F' H' _ (fun b => b = Da) Su (Step.refl.weak (fun _ q => q) fun b q => ?_) ⟨Da, acc, rfl, rfl, hDl, tacc.1.symm, kids1.2 tacc.2⟩ nD (fun b x y => aD b x (outs_cov y))
          rcases q with q | q
          · exact .inl (.inl (outs_cov q))
          · exact .inl (.inr q)
        · rw [if_neg hh] at P'; exact P'.elim
      | some d =>
        rw [drop_cons hdd] at P'
        unfold dcLoop at P'
        by_cases hh : held lk env' = true
        · rw [if_pos hh] at P'
          obtain ⟨go, yl⟩ := (wk' i F' H' _ _ fp' _ sub S' (by rw [hw]; exact hh) at_lk).2 d hdd
          have hi' := (List.getElem?_eq_some_iff.1 hdd).1
          refine .inr ⟨go, fun H2 => ∃ m', m' < ds.length - i ∧ (m' = ds.length - (i + 1) ∧ i + 1 ≤ ds.length ∧ ∃ env' F' fp' acc accD, Sub F1 F' ∧ Stt F' H2 (wipe σ vs) (wipes env' vs) fp' (lockP lk σ pv) ∧ H2 Da = some (.dK acc) ∧ F' Da = none ∧ ¬ cov fp' Da ∧ AccD F' acc accD ∧
              Post ER (atS E0 σ) σ pv ((dcLoop lk turn (ds.drop (i + 1)) accD env').noex.bind fun ds e2 => .ok (.ow 1 (.dk ds.1 ds.2)) (unlockE lk (undo e1 e2 vs))) (RV1 σ) (or2 (cov fp') fun b => b = Da) F' H2 Q), fun H2 h => h, fun x H'' hy => ?_⟩
          obtain ⟨F2, st2, sub2, hx⟩ := yl x H'' hy
          have S2 := S'.prim st2 sub2 fun _ _ q => q
          have nD2 := nD.step st2 fun _ _ q => q
          have hDl2 : H'' Da = some (.dK acc) := st2.keep Da _ hDl fun q => q
          have tacc2 := tacc.mono st2.sub
          rw [← hturn] at P'
          dsimp only at P'
          rw [hturn] at P'
          cases ht : tgt tg d (wipes env' vs) with
          | none => simp only [ht] at P'; exact P'.elim
          | some e2 =>
            simp only [ht] at P'
            intro s0 H0 C0 cl0 fp0
            refine tg_ok (LB s0 H0 C0 cl0 fp0) tg tg' hm S2 hx ht fun σ3 fp3 S3 c3 w3 => ⟨(w3 vs hin).trans wipe_idem, fun s0 H0 C0 cl0 fp0 => ?_⟩
            rw [Rs.bind_assoc, Rs.noex_bind, Rs.bind_assoc] at P'
            have P2 : Post ER (atS E0 σ) σ pv _ (RV1 σ) (or2 (cov fp3) fun b => b = Da) F2 H'' Q := (Post.step P' (st2.weak (N' := or2 (cov fp') fun b => b = Da) (fun _ q => q.elim) fun b q => .inr (.inl q))).less (fun b q => by
              rcases q with q | q
              · exact .inl (c3 b q)
              · exact .inr q)
            have aD3 : Apart (fun b => b = Da) (cov fp3) := fun b q z => aD b q (c3 b z)
            refine hcd s0 H0 C0 cl0 fp0 e2 F2 H'' σ3 (lockP lk σ pv) fp3 _ S3 (P2.spN (M0 := cov fp3) (A := fun b => b = Da) (fun b q => .inl q) (fun b q => .inr q) nD2 aD3 fun bb e3 bv F3 H3 fp4 B4 S4 st4 r4 n4 ap4 nD4 aD4 P4 => ?_)
            cases r4
            have hDl3 := cell_keep nD2 st4 aD3 hDl2
            have tacc3 := tacc2.mono st4.sub
            have fin : ∀ (e5 : Env) (F5 H5 : Hp) (fp5 : Nat → Addr → Prop) (acc5 : List (Key × V)) (accD5 : List Key × List D), Sub F1 F5 → Stt F5 H5 σ3 e5 fp5 (lockP lk σ pv) → H5 Da = some (.dK acc5) → F5 Da = none → ¬ cov fp5 Da → AccD F5 acc5 accD5 →
                Post ER (atS E0 σ) σ pv ((dcLoop lk turn (ds.drop (i + 1)) accD5 e5).noex.bind fun ds e2 => .ok (.ow 1 (.dk ds.1 ds.2)) (unlockE lk (undo e1 e2 vs))) (RV1 σ) (or2 (cov fp5) fun b => b = Da) F5 H5 Q →
                ∃ m', m' < ds.length - i ∧ (m' = ds.length - (i + 1) ∧ i + 1 ≤ ds.length ∧ ∃ env' F' fp' acc accD, Sub F1 F' ∧ Stt F' H5 (wipe σ vs) (wipes env' vs) fp' (lockP lk σ pv) ∧ H5 Da = some (.dK acc) ∧ F' Da = none ∧ ¬ cov fp' Da ∧ AccD F' acc accD ∧
              Post ER (atS E0 σ) σ pv ((dcLoop lk turn (ds.drop (i + 1)) accD env').noex.bind fun ds e2 => .ok (.ow 1 (.dk ds.1 ds.2)) (unlockE lk (undo e1 e2 vs))) (RV1 σ) (or2 (cov fp') fun b => b = Da) F' H5 Q) := by
              intro e5 F5 H5 fp5 acc5 accD5 sub5 S5 h1 h2 h3 t5 P5
              have Sw := wipe_stt (vs := vs) S5
              rw [(w3 vs hin).trans wipe_idem] at Sw
              refine ⟨_, by omega, rfl, hi', e5, F5, outs fp5 vs, acc5, accD5, sub5, Sw, h1, h2, fun q => h3 (outs_cov q), t5, P5.less fun b q => ?_⟩
              rcases q with q | q
              · exact .inl (outs_cov q)
              · exact .inr q
            have sub3 : Sub F1 F3 := (sub.trans st2.sub).trans st4.sub
            have hDF3 : F3 Da = none := (nD4 Da rfl).1
            have hDc3 : ¬ cov fp4 Da := fun q => aD4 Da rfl (.inl q)
            cases bb with
            | false =>
              simp only [Bool.false_eq_true, if_false, Rs.bind_ok] at P4 ⊢
              exact fin e3 F3 H3 fp4 acc accD sub3 S4 hDl3 hDF3 hDc3 tacc3 (P4.less fun b q => by
                rcases q with q | q
                · exact .inl (.inl q)
                · exact .inr q)
            | true =>
              simp only [if_true] at P4 ⊢
              intro s0 H0 C0 cl0 fp0
              rw [Rs.bind_assoc, Rs.noex_bind, Rs.bind_assoc] at P4
              have aD4' : Apart (fun b => b = Da) (cov fp4) := fun b q z => aD4 b q (.inl z)
              have P4' := P4.less (M' := or2 (cov fp4) fun b => b = Da) fun b q => by
                rcases q with q | q
                · exact .inl (.inl q)
                · exact .inr q
              refine hk s0 H0 C0 cl0 fp0 e3 F3 H3 σ3 (lockP lk σ pv) fp4 _ S4 (P4'.spN (M0 := cov fp4) (A := fun b => b = Da) (fun b q => .inl q) (fun b q => .inr q) nD4 aD4' fun rv e4 yv F4 H4 fp5 B5 S5 st5 r5 n5 ap5 nD5 aD5 P5 => ?_)
              have hDl4 := cell_keep nD4 st5 aD4' hDl3
              intro s0 H0 C0 cl0 fp0
              cases rv with
              | ow n d => exact P5.elim
              | vw i => exact P5.elim
              | fz kd =>
              dsimp only at P5
              cases ekey : kd.key with
              | none => simp only [ekey] at P5; exact P5.elim
              | some key =>
              simp only [ekey] at P5
              have eyv : yv = kV key := key_of_at r5 ekey
              rw [Rs.bind_assoc, Rs.noex_bind, Rs.bind_assoc] at P5
              have aD5' : Apart (fun b => b = Da) (cov fp5) := fun b q z => aD5 b q (.inl z)
              have P5' := P5.less (M' := or2 (cov fp5) fun b => b = Da) fun b q => by
                rcases q with q | q
                · exact .inl (.inl q)
                · exact .inr q
              refine he s0 H0 C0 cl0 fp0 e4 F4 H4 σ3 (lockP lk σ pv) fp5 _ S5 (P5'.spN (M0 := cov fp5) (A := fun b => b = Da) (fun b q => .inl q) (fun b q => .inr q) nD5 aD5' fun rv2 e5 zv F5 H5 fp6 B6 S6 st6 r6 n6 ap6 nD6 aD6 P6 => ?_)
              have hDl5 := cell_keep nD5 st6 aD5' hDl4
              cases ek : keep e5 rv2 with
              | none => simp only [ek] at P6; exact P6.elim
              | some q =>
                obtain ⟨xd, e6⟩ := q
                simp only [ek, Rs.bind_ok, Rs.noex_ok] at P6
                obtain ⟨F7, fp7, S7, st7, hx7⟩ := keep_ok S6 r6 n6 ap6 ek
                have nD7 := nD6.step st7 aD6
                have apD7 : Apart (fun b => b = Da) (cov fp7) := Apart.step nD6 st7 aD6
                by_cases hlen : accD.1.length < lim
                · rw [if_pos hlen] at P6
                  have tl : acc.length = accD.1.length := by rw [← tacc.1, List.length_map]
                  refine ⟨acc, key, eyv, hDl5, by rw [tl]; exact hlen, ?_⟩
                  have stw : Step (fun b => b = Da) F7 H5 (fun b => b = Da) F7 (upd H5 Da (.dK (putK acc key zv))) := ⟨Sub.refl _, fun _ _ q => .inl q, fun b u q n => by rw [upd_ne n]; exact q, fun b q => .inl q, fun b q => by
                    by_cases e : b = Da
                    · rw [e, upd_same] at q; cases q
                    · rw [upd_ne e] at q; exact q⟩
                  have subw : Sub F7 (upd H5 Da (.dK (putK acc key zv))) := S7.sub.putR (nD7 Da rfl).1
                  have t7 : AccD F7 (putK acc key zv) (put key xd accD.1 accD.2) := by
                    have z := (tacc3.2.mono ((st5.sub.trans st6.sub).trans st7.sub))
                    obtain ⟨z1, z2⟩ := put_at (k := key) hx7 z
                    rw [tacc.1] at z1 z2
                    exact ⟨z1, z2⟩
                  refine fin e6 F7 _ fp7 (putK acc key zv) (put key xd accD.1 accD.2) (((sub3.trans st5.sub).trans st6.sub).trans st7.sub) (S7.prim stw subw apD7.symm) upd_same (nD7 Da rfl).1 (fun q => apD7 Da rfl q) t7 ?_
                  refine Post.step (Post.step P6 (st7.weak (N' := or2 (cov fp7) fun b => b = Da) (fun b q => .inl q) fun b q => ?_)) (stw.weak (N' := or2 (cov fp7) fun b => b = Da) (fun b q => .inr q) fun b q => ?_)
                  · rcases q with q | q
                    · exact .inl q
                    · exact .inr (.inl (.inr q))
                  · exact .inr (.inl q)
                · rw [if_neg hlen] at P6; exact P6.elim
        · rw [if_neg hh] at P'; exact P'.elim
  · rw [if_neg hd] at P1; exact P1.elim
theorem case_dcp {own : List (Str × Nat)} {tg : Tg} {src : Ex} {c : Option Ex} {ke e : Ex} {k' e' tg' it' : Expr} {ifs' : List Expr} {scope : Scope} {pos : Pos} (hc : X.calm = true) (hN : X.N.Nodup) (hblk : BlkOk X.N X.env.scope scope own)
    (hin : tgIn (own.map (·.2)) tg = true) (hm : mTg N scope tg tg' = true) (hgi : badE it' = false) (hi : SI Φ ER E0 X src tg' it')
    (LB : ∀ s H C cl fp, Locs N scope (X.blk s H scope (compEnvC scope cl C X.env) fp)) (hcd : ∀ s H C cl fp, SC Φ ER noE (X.blk s H scope (compEnvC scope cl C X.env) fp) c ifs') (hk : ∀ s H C cl fp, SE Φ ER noE (X.blk s H scope (compEnvC scope cl C X.env) fp) ke k') (he : ∀ s H C cl fp, SE Φ ER noE (X.blk s H scope (compEnvC scope cl C X.env) fp) e e') :
    SE Φ ER E0 X (.dcp own tg src c ke e) (.DictComp k' e' [⟨tg', it', ifs', 0⟩] scope pos) :=
  fun env F H σ pv fp Q S P => wE (pe_dc hc hN WI.pi hblk lcG_ok lcT_ok lcE_ok lcE_ok (fold_good hgi)) (read_dcp hc hN hblk hin hm hgi hi LB hcd hk he env F H σ pv fp Q S P)
end
end Mi
end
section
set_option Elab.async false
set_option linter.all false
set_option maxRecDepth 100000
set_option maxHeartbeats 1000000
namespace Mi
open PySem PySem.Spec PyProof.Rows
section
variable {prog : Program} {w : World} {A : Around} {s : Shared} {R : Result → Shared → Prop}
theorem list_init_rev {it l S : Addr} {items : Array Value} (hh : A.handled = none) (hit : s.heap.IsRevIter it l ((items.size : Int) - 1)) (hl : s.heap.IsList l items) (hne : l ≠ it) (hn : items.size ≤ sizeLine) (hSi : S ≠ it) (hSl : S ≠ l)
    (hS : s.heap.get? S = some { cls := .type "list", data := .seq #[] })
    (hR : ∀ s' acc' c', Moved [S, it] (fun a b => b = a) s s' → s'.heap.get? S = some { cls := .type "list", dict := none, data := .seq acc' c', slots := #[] } → ItemsOf (fun i v => items[items.size - 1 - i]? = some v) acc' items.size → R (.ok (.ret .none)) s') :
    wpAny (model prog w) A.in1 (Builtin.«list.__init__» ⟨[.ref S, .ref it], []⟩)
      (fun fin s' => match fin with | .done f => R (.ok f) s' | .again c' => c'.quiet = true ∧ codeAny (model prog w) A c' R s') (fun e s' => R (.error e) s') s := by
  have W := (Walks.listRev (prog := prog) (w := w) (A := A.in1) hh it l hne items).toS
  have hSf : S ∉ [it, l] := by simp only [List.mem_cons, List.not_mem_nil, or_false, not_or]; exact ⟨hSi, hSl⟩
  show wpAny _ A.in1 (do let old ← Builtin.List.listItems (.ref S); Builtin.List.listUpdate (.ref S) (fun _ => #[]); letGo old.toList.reverse; Builtin.List.listExtendWith (.ref S) (.ref it) .none) _ _ s
  refine wpAny_bind ?_
  unfold Builtin.List.listItems
  refine wpAny_bind (wpAny_seqItems hS rfl (wpAny_pure ?_))
  show wpAny _ A.in1 (updateSeq S (fun _ => #[]) >>= fun _ => letGo (#[] : Array Value).toList.reverse >>= fun _ => Builtin.List.listExtendWith (.ref S) (.ref it) .none) _ _ s
  refine wpAny_bind (wpAny_updateSeq hS rfl ?_)
  have hS₂ := Heap.get?_update_self (Obj.mapSeq (fun _ => (#[] : Array Value))) hS rfl
  have oth : ∀ b o, b ≠ S → s.heap.get? b = some o → (s.heap.update S (Obj.mapSeq (fun _ => (#[] : Array Value)))).get? b = some o :=
    fun b o hb e => (Heap.get?_update_other _ _ (Ne.symm hb)).trans e
  refine wpAny_bind (wpAny_letGo ?_)
  have hit1 : (s.heap.update S (Obj.mapSeq (fun _ => (#[] : Array Value)))).IsRevIter it l ((items.size : Int) - 1) := hit.at fun o e => oth it o (Ne.symm hSi) e
  have hl1 : (s.heap.update S (Obj.mapSeq (fun _ => (#[] : Array Value)))).IsList l items := hl.at fun o e => oth l o (Ne.symm hSl) e
  have hT : ({ s with heap := s.heap.update S (Obj.mapSeq (fun _ => (#[] : Array Value))) } : Shared).TypeIs (.ref it) "list_reverseiterator" := Heap.IsRevIter.typeIs (s := { s with heap := s.heap.update S (Obj.mapSeq (fun _ => (#[] : Array Value))) }) hit1
  have h1 : Builtin.List.listSameRef (.ref S) (.ref it) = false := by simp [Builtin.List.listSameRef, hSi]
  unfold Builtin.List.listExtendWith
  refine wpAny_bind (wpAny_typeOf hT ?_)
  rw [if_neg (by rw [h1]; decide)]
  refine wpAny_bind (wpAny_pyIter_revIter (s := { s with heap := s.heap.update S (Obj.mapSeq (fun _ => (#[] : Array Value))) }) hit1 ?_)
  refine wpAny_bind (wpAny_holding ?_)
  unfold Builtin.List.listLengthHint
  refine wpAny_bind (wpAny_specialOf hT RT.nolen_lri ?_)
  show wpAny _ A.in1 (specialOf (Value.ref it) (Str.ofString "__length_hint__") >>= _) _ _ _
  refine wpAny_bind (wpAny_specialOf hT RT.hint_lri ?_)
  generalize hid : ("list_reverseiterator.__length_hint__" : String) = id0
  wp_delta
  rw [show splitId id0 = some ("list_reverseiterator", "__length_hint__") from by subst hid; decide +kernel]
  subst hid
  refine wpAny_bind (wpAny_isInstance (b := true) hT (by rw [isSubtype_type]; kernel_rfl) ?_)
  refine wpAny_pure ?_
  rw [if_neg (by decide)]
  have e0 : ((items.size : Nat) : Int) - 1 - ((0 : Nat) : Int) = (items.size : Int) - 1 := by omega
  refine wpAny_pure ⟨plainId_quiet F.plain_extend_loop _, codeAny_extend_loopS W hn _ hSf _ items.size 0 _ _ _ rfl (Nat.zero_le _) ⟨Nat.zero_le _, by rw [e0]; exact hit1, hl1⟩ hS₂ (ItemsOf.nil _) fun s' acc' c' hm hS' hacc => ?_⟩
  have m0 : Moved [S, it] (fun (a b : Array GenState) => b = a) s { s with heap := s.heap.update S (Obj.mapSeq (fun _ => (#[] : Array Value))) } :=
    Moved.then_heap (wr := [S, it]) (G := fun (a b : Array GenState) => b = a) (Moved.refl fun _ => rfl) (Nat.le_refl _) fun b o hb e => oth b o (fun h => hb (by rw [h]; exact List.mem_cons_self)) e
  exact hR s' acc' c' (Moved.trans W.gtrans m0 hm) hS' hacc
end
section
variable {prog : Program} {w : World} {A : Around} {E : Value → Shared → Prop} {s : Shared}
theorem call_list_rev {it l : Addr} {items : Array Value} {Q : Value → Shared → Prop} (hh : A.handled = none) (hit : s.heap.IsRevIter it l ((items.size : Int) - 1)) (hl : s.heap.IsList l items) (hne : l ≠ it) (hn : items.size ≤ sizeLine)
    (hQ : ∀ (h' : Heap) (tk : Nat) (acc : Array Value) (c : Nat), (∀ b o, b ≠ it → s.heap.get? b = some o → h'.get? b = some o) → s.heap.objs.size < h'.objs.size → h'.get? s.heap.objs.size = some { cls := .type "list", dict := none, data := .seq acc c, slots := #[] } → ItemsOf (fun i v => items[items.size - 1 - i]? = some v) acc items.size →
      Q (.ref s.heap.objs.size) { s with heap := h', toks := tk }) :
    wpAny (model prog w) A (call (.type "list") [.ref it]) Q E s := by
  obtain ⟨oi, hoi, _⟩ := id hit
  obtain ⟨ol, hol, _⟩ := id hl
  have hSi : s.heap.objs.size ≠ it := Nat.ne_of_gt (Heap.lt_size hoi)
  have hSl : s.heap.objs.size ≠ l := Nat.ne_of_gt (Heap.lt_size hol)
  refine callType_codes (Q₁ := fun obj s₁ => obj = .ref s.heap.objs.size ∧ s₁ = { s with heap := s.heap.push { cls := .type "list", data := .seq #[] } }) F.called_list (F.typeCall_list_1 _) F.entry_list_init
    (code_list_new _ ⟨rfl, rfl⟩) fun obj s₁ h₁ => ?_
  obtain ⟨rfl, rfl⟩ := h₁
  have hS : (s.heap.push { cls := .type "list", data := .seq #[] }).get? s.heap.objs.size = some { cls := .type "list", data := .seq #[] } := Heap.get?_push_size _ rfl
  refine ⟨⟨_, hS, rfl⟩, F.args_list_init_2 _ _, list_init_rev (A := A.in1) hh (hit.at fun o e => Heap.get?_push_of_some _ e) (hl.push _) hne hn hSi hSl hS fun s' acc' c' hm hS' hacc => ?_⟩
  refine ⟨rfl, ?_⟩
  rw [Moved.eq_with hm]
  refine hQ s'.heap s'.toks acc' c' (fun b o hb e => hm.heap b o (fun hmem => ?_) (Heap.get?_push_of_some _ e)) (Heap.lt_size hS') hS' hacc
  rcases List.mem_cons.mp hmem with e' | hmem
  · exact absurd (Heap.lt_size e) (by rw [e']; exact Nat.lt_irrefl _)
  · exact hb (List.mem_singleton.mp hmem)
end
end Mi
namespace Mi
open PySem PySem.Spec PyProof.Rows L2
section
variable {X : Cx}
/-- list(reversed(x)), x a list: a new list -/
def tListRev (K : PySem.W.Frag) (te : TE) : TE := fun σ H Q => te σ H fun v H1 => ∃ (a : Addr) (xs : List V), v = .ref a ∧ Rd H1 a (.lst xs) ∧ ∀ q, H1 q = none → Q (.ref q) (upd H1 q (.lst xs.reverse))
open RT in
theorem pe_listRev {e : Expr} {te : TE} {p p2 pos pos2 : Pos} (hc : X.calm = true) (hg : Gl X "list") (hm : X.mg "list" = none) (hg2 : Gl X "reversed") (hm2 : X.mg "reversed" = none) (he : PE X e te)
    (hs : starEach [e] X.env = (false, eval e X.env) :: starEach [] X.env)
    (hs2 : starEach [.Call (.Name "reversed" p2) [e] [] pos2] X.env = (false, eval (.Call (.Name "reversed" p2) [e] [] pos2) X.env) :: starEach [] X.env := by rfl) :
    PE X (.Call (.Name "list" p) [.Call (.Name "reversed" p2) [e] [] pos2] [] pos) (tListRev X.K te) := by
  refine ⟨fun pins s σ H Q I h => ?_⟩
  refine Call_ (ld_blt I hg hm PyProof.Rows.boot_list (PyProof.Rows.callWith_type1 (args_cons (Call_ (ld_blt I hg2 hm2 PyProof.Rows.boot_reversed (PyProof.Rows.callWith_type1 (args_cons (thn (he.run pins s σ H _ I h) fun u s1 ⟨v, H1, I1, r1, q1⟩ => args_nil ?_) hs) hs rfl))) hs2) hs2 rfl))
  obtain ⟨a, xs, ev, hq, q⟩ := q1
  subst ev
  obtain rfl : u = Value.ref a := r1
  obtain ⟨hz, its, n0, rv, _, hobj⟩ := inv_lst I1 hq
  have hl : s1.heap.IsList a its.toArray := ⟨_, hobj, rfl, n0, rfl⟩
  refine call_reversed_list hl (args_nil ?_)
  have k0 : ∀ b o, s1.heap.get? b = some o → (s1.heap.push (revObj a ((its.toArray.size : Int) - 1))).get? b = some o := fun b o e => Heap.get?_push_of_some _ e
  have I2 : Inv X pins σ H1 { s1 with heap := s1.heap.push (revObj a ((its.toArray.size : Int) - 1)) } := I1.kept (t' := s1.toks) k0
  obtain ⟨f0, f1, f2, f3, f4, f5⟩ := I1.fpOk (H' := H1) (b := s1.heap.objs.size) (Nat.le_refl _) (I1.hok.fresh (Nat.le_refl _))
  obtain ⟨ol, hol, _⟩ := id hl
  have hne : a ≠ s1.heap.objs.size := Nat.ne_of_lt (Heap.lt_size hol)
  have hn : its.toArray.size ≤ sizeLine := by rw [List.size_toArray, ← rv.length]; exact hz
  refine call_list_rev (s := { s1 with heap := s1.heap.push (revObj a ((its.toArray.size : Int) - 1)) }) (I1.ok.hd hc) ⟨_, Heap.get?_push_size _ rfl, rfl, rfl⟩ (hl.push _) hne hn fun h' tk acc c hk hsz hS hi => ?_
  have hT : (s1.heap.push (revObj a ((its.toArray.size : Int) - 1))).objs.size = s1.heap.objs.size + 1 := by simp [Heap.push]
  have I3 := I1.turnedNew (h' := h') (t' := tk) (ch := [s1.heap.objs.size]) (T := (s1.heap.push (revObj a ((its.toArray.size : Int) - 1))).objs.size) (ob := .lst xs.reverse)
    (fun b o hb e => hk b o (fun z => hb (by simp [z])) (k0 b o e)) (fun b hb => by cases List.mem_singleton.mp hb; exact ⟨f0, f1, f2, f3, f4, f5⟩) (by omega)
    (show ObjOk X.prog X.w _ _ _ (.lst xs.reverse) from ⟨by rw [List.length_reverse]; exact hz, acc.toList, c, RT.vals_rev rv hi, by simpa using hS⟩)
  exact ⟨.ref (s1.heap.push (revObj a ((its.toArray.size : Int) - 1))).objs.size, _, I3, rfl, q _ (I1.hok.fresh (by omega))⟩
end
section
variable {Φ : Calls} {ER : Exn → Value → Option Addr → Hp → Hp → Prop} {E0 : WX} {X : Cx} {P : Program} {w : World} {K : Frag} {mg : Str → Option Value} {base : Heap} {k : Nat} {N : List Str} {sc : Scope} {C : Cfg}
theorem case_listrev {e : Ex} {e' : Expr} {fe ge : Expr} {p2 pos : Pos} (T : Tab C P w K mg base Φ ER k) (c : CxOk P w K mg base k N sc E0 X) (hn : glName sc "list" fe = true) (hn2 : glName sc "reversed" ge = true) (hm : mE C N sc e e' = true)
    (h : SE Φ ER E0 X e e') : SE Φ ER E0 X (.blt .listrev [e]) (.Call fe [.Call ge [e'] [] p2] [] pos) := by
  obtain ⟨p, rfl, hg⟩ := glName_of hn
  obtain ⟨p', rfl, hg2⟩ := glName_of hn2
  intro env F H σ pv fp Q S P
  unfold ev at P
  unfold evs at P
  have m1 : X.mg "list" = none := by rw [c.emg]; exact T.blts _ (by decide +kernel)
  have m2 : X.mg "reversed" = none := by rw [c.emg]; exact T.blts _ (by decide +kernel)
  refine wE (pe_listRev c.calm (c.gl hg) m1 (c.gl hg2) m2 WE.pe (star_good (mE_good hm))) ?_
  rw [Rs.bind_assoc] at P
  refine h env F H σ pv fp _ S (P.sp0 fun r e1 v F1 H1 fp1 A1 S1 st1 r1 n1 ap1 P1 => ?_)
  unfold evs at P1
  simp only [Rs.bind_ok] at P1
  cases hl : looks e1 [r] with
  | none => simp only [hl] at P1; exact P1.elim
  | some ds =>
    simp only [hl] at P1
    obtain ⟨F2, S2, st2, pk⟩ := looks_ok S1 (.cons (A := A1) (C := none1) (fun _ q => q) (fun _ q => q.elim) (fun _ _ q => q) r1 .nil) n1 ap1 hl
    cases eb : bltin .listrev ds with
    | none => simp only [eb] at P1; exact P1.elim
    | some z =>
      simp only [eb, Option.map_some, ofO_some] at P1
      cases pk with
      | cons pk pk2 =>
      cases pk2
      rename_i d
      cases d with
      | lst ds =>
        obtain ⟨a, vs, rfl, hh, t⟩ := pk
        cases eb
        exact ⟨a, vs, rfl, hh, fun q hq => (P1.step st2).prim S2 (fun b q => q) (Prim.lst hq S2.sub t.reverse)⟩
      | _ => cases eb
end
end Mi
end
section
set_option Elab.async false
set_option linter.all false
set_option maxRecDepth 100000
namespace Mi
open PySem L2
section
variable {Φ : Calls} {ER : Exn → Value → Option Addr → Hp → Hp → Prop} {E0 : WX} {X : Cx} {P : Program} {w : World} {K : Frag} {mg : Str → Option Value} {base : Heap} {k : Nat} {N : List Str} {sc : Scope} {C : Cfg}
theorem relab {scope : Scope} {env : PySem.Env} (e : env.scope = sc) : relabel scope env = relS scope sc := by subst e; rfl
theorem blk_cx {scope : Scope} (c : CxOk P w K mg base k N sc E0 X) {s : Shared} {H : Hp} {D : Addr} {cl : List (Str × Addr)} {fp : List Addr} :
    CxOk P w K mg base k N (relS scope sc) noE (X.blk s H scope (compEnvC scope cl D X.env) fp) :=
  ⟨c.eP, c.ew, c.eK, c.emg, c.ebase, c.eN, c.nd, relab c.esc, c.calm, c.room, fun u s' ⟨a, B, sI, pins, σ, H, cls, d, h⟩ => by
    obtain ⟨_, _, _, _, _, _, _, _, w⟩ := h
    exact w.elim⟩
theorem blk_locs {scope : Scope} (c : CxOk P w K mg base k N sc E0 X) {s : Shared} {H : Hp} {D : Addr} {cl : List (Str × Addr)} {fp : List Addr} :
    Locs N scope (X.blk s H scope (compEnvC scope cl D X.env) fp) where
  eN := c.eN
  nd := c.nd
  calm := c.calm
  ok := fun x h => by
    have e : (compEnvC scope cl D X.env).scope = relS scope sc := relab c.esc
    unfold loc at h
    cases hx : scope.names.lookup x with
    | none => rw [hx] at h; cases h
    | some q =>
      rw [hx] at h
      show Loc (compEnvC scope cl D X.env).scope x ∧ ((scope.names.lookup x == some .cell) = true ∨ (compEnvC scope cl D X.env).scope.names.lookup x = some .local)
      rw [e, hx]
      cases q <;> first
        | (cases h; done)
        | exact ⟨.inl (lookup_relS_keep (by decide) hx), .inr (lookup_relS_keep (by decide) hx)⟩
        | exact ⟨.inr (lookup_relS_keep (by decide) hx), .inl rfl⟩
theorem ev_isbl {a : Ex} (h : (∃ o x y, a = .cmp o x y) ∨ ∃ o p x y z, a = .chn o p x y z) {env e1 : Env} {r : RV} (e : ev Φ a env = .ok r e1) : ∃ c, r = .fz (.bl c) := by
  rcases h with ⟨o, x, y, rfl⟩ | ⟨o, p, x, y, z, rfl⟩
  · exact ev_cmp e
  · exact ev_chn e
theorem caseT_cmp {o : Cop} {a b : Ex} {a' b' : Expr} {o' : CmpOp} {pos : Pos} (c : CxOk P w K mg base k N sc E0 X) (ho : isCop o o' = true) (hg : badE b' = false) (ha : SE Φ ER E0 X a a') (hb : SE Φ ER E0 X b b') :
    ST Φ ER E0 X (.tst (.cmp o a b)) (.Compare a' [o'] [b'] pos) := by
  cases isCop_eq ho
  exact caseT_bl (pt_cmpR WOp.op WE.pe WE.pe (mark_good hg)) (fun e => ev_isbl (.inl ⟨_, _, _, rfl⟩) e) (read_cmp c ha hb)
theorem caseT_chn {o p : Cop} {a b c : Ex} {a' b' c' : Expr} {o' p' : CmpOp} {pos : Pos} (cx : CxOk P w K mg base k N sc E0 X) (ho : isCop o o' = true) (hp : isCop p p' = true) (hg : badE c' = false)
    (ha : SE Φ ER E0 X a a') (hb : SE Φ ER E0 X b b') (hc : SE Φ ER E0 X c c') : ST Φ ER E0 X (.tst (.chn o p a b c)) (.Compare a' [o', p'] [b', c'] pos) := by
  cases isCop_eq ho
  cases isCop_eq hp
  exact caseT_bl (pt_chain WOp.op WOp.op WE.pe WE.pe WE.pe (marks2 hg)) (fun e => ev_isbl (.inr ⟨_, _, _, _, _, rfl⟩) e) (read_chn cx ha hb hc)
theorem mEs_one {x : Ex} {es' : List Expr} (h : mEs C N sc [x] es' = true) : ∃ x', es' = [x'] ∧ mE C N sc x x' = true := by
  match es', h with
  | [], h => unfold mEs at h; cases h
  | [x'], h => unfold mEs at h; rw [Bool.and_eq_true] at h; exact ⟨x', rfl, h.1⟩
  | _ :: _ :: _, h => unfold mEs at h; rw [Bool.and_eq_true] at h; have := h.2; unfold mEs at this; cases this
theorem case_met {m : Met} {a : Ex} {es : List Ex} {a' : Expr} {es' : List Expr} {apos cpos : Pos} {x : Str} (hx : x = metName m) (hb : (match a' with | .Call .. => false | _ => true) = true) (hl : (apos.endLine == cpos.line) = true) (hm : mEs C N sc es es' = true) (h1 : es.length = 1)
    (ha : SE Φ ER E0 X a a') (hs : SA Φ ER E0 X es es') : SE Φ ER E0 X (.met m a es) (.Call (.Attribute a' x apos) es' [] cpos) := by
  subst hx
  cases m
  match es, h1 with
  | [x], _ =>
    obtain ⟨x', rfl, g⟩ := mEs_one hm
    exact case_index hb hl (mE_good g) ha hs
theorem case_app' {i : Nat} {x : Ex} {a' : Expr} {es' : List Expr} {apos cpos : Pos} {n : Str} (c : CxOk P w K mg base k N sc E0 X) (hn : n = mutName .app) (hl : (apos.endLine == cpos.line) = true) (hs : slotOk N sc i a' = true) (hm : mEs C N sc [x] es' = true) (hx : SA Φ ER E0 X [x] es') :
    SE Φ ER E0 X (.mut .app i [x]) (.Call (.Attribute a' n apos) es' [] cpos) := by
  subst hn
  obtain ⟨x', rfl, g⟩ := mEs_one hm
  exact case_app c hs hl (mE_good g) hx
theorem case_pop' {i : Nat} {a' : Expr} {es' : List Expr} {apos cpos : Pos} {n : Str} (c : CxOk P w K mg base k N sc E0 X) (hn : n = mutName .pop) (hl : (apos.endLine == cpos.line) = true) (hs : slotOk N sc i a' = true) (hm : mEs C N sc [] es' = true) :
    SE Φ ER E0 X (.mut .pop i []) (.Call (.Attribute a' n apos) es' [] cpos) := by
  subst hn
  cases es' with
  | nil => exact case_pop c hs hl
  | cons _ _ => unfold mEs at hm; cases hm
theorem case_setd' {i : Nat} {x y : Ex} {a' : Expr} {es' : List Expr} {apos cpos : Pos} {n : Str} (c : CxOk P w K mg base k N sc E0 X) (hn : n = mutName .setd) (hl : (apos.endLine == cpos.line) = true) (hs : slotOk N sc i a' = true) (hm : mEs C N sc [x, y] es' = true)
    (hx : ∀ e', mE C N sc x e' = true → SE Φ ER E0 X x e') (hy : ∀ e', mE C N sc y e' = true → SE Φ ER E0 X y e') :
    SE Φ ER E0 X (.mut .setd i [x, y]) (.Call (.Attribute a' n apos) es' [] cpos) := by
  subst hn
  cases es' with
  | nil => unfold mEs at hm; cases hm
  | cons x' r =>
    unfold mEs at hm
    rw [Bool.and_eq_true] at hm
    obtain ⟨y', rfl, g⟩ := mEs_one hm.2
    exact case_setd c hs hl (mE_good hm.1) (mE_good g) (hx _ hm.1) (hy _ g)
theorem case_blt0 {f : Blt} {es : List Ex} {es' : List Expr} {fe : Expr} {pos : Pos} (T : Tab C P w K mg base Φ ER k) (c : CxOk P w K mg base k N sc E0 X) (hf : f ≠ .listrev) (h1 : (!es'.isEmpty) = true) (hn : glName sc (bltName f) fe = true) (hm : mEs C N sc es es' = true)
    (h : SA Φ ER E0 X es es') : SE Φ ER E0 X (.blt f es) (.Call fe es' [] pos) := by
  cases es' with
  | nil => cases h1
  | cons x r => exact case_blt T c hf hn hm h
theorem mE_blt {f : Blt} {es : List Ex} {e' : Expr} (hf : f ≠ .listrev) (h : mE C N sc (.blt f es) e' = true) : ∃ (fe : Expr) (es' : List Expr) (pos : Pos), e' = .Call fe es' [] pos ∧ (!es'.isEmpty) = true ∧ glName sc (bltName f) fe = true ∧ mEs C N sc es es' = true := by
  unfold mE at h
  split at h <;> first | contradiction | (cases h; done) | skip
  · rename_i he; cases he; exact absurd rfl hf
  · injection ‹Ex.blt f es = _› with a b
    subst a
    subst b
    rw [Bool.and_eq_true, Bool.and_eq_true] at h
    exact ⟨_, _, _, rfl, h.1.1, h.1.2, h.2⟩
theorem mI_good {e : Ex} {tg e' : Expr} (h : mI C N sc e tg e' = true) : badE e' = false := by
  unfold mI at h
  split at h <;> first | exact mE_good h | rfl | cases h
end
set_option maxHeartbeats 4000000 in
mutual
theorem sE {Φ : Calls} {ER : Exn → Value → Option Addr → Hp → Hp → Prop} {P : Program} {w : World} {K : Frag} {mg : Str → Option Value} {base : Heap} {k : Nat} {N : List Str} {C : Cfg} (T : Tab C P w K mg base Φ ER k) :
    ∀ (e : Ex) {e' : Expr} {X : Cx} {E0 : WX} {sc : Scope}, CxOk P w K mg base k N sc E0 X → mE C N sc e e' = true → SE Φ ER E0 X e e'
  | .var i, e', X, E0, sc, c, h => by unfold mE at h; exact case_var c h
  | .frz i, e', X, E0, sc, c, h => by unfold mE at h; exact case_frz c h
  | .mv i, e', X, E0, sc, c, h => by unfold mE at h; exact case_mv c h
  | .cst d, e', X, E0, sc, c, h => by
    unfold mE at h; split at h <;> first | contradiction | (cases h; done) | skip
    rename_i he; cases he
    exact case_cst h
  | .glb x d, e', X, E0, sc, c, h => by
    unfold mE at h; split at h <;> first | contradiction | (cases h; done) | skip
    rename_i he; cases he
    simp only [Bool.and_eq_true] at h
    obtain ⟨⟨h1, h2⟩, h3⟩ := h
    cases of_decide_eq_true h1
    obtain ⟨f, u, hu, r⟩ := T.globs _ _ (List.contains_iff_mem.1 h3)
    exact case_glb c h2 f hu r
  | .tup n es, e', X, E0, sc, c, h => by
    unfold mE at h; split at h <;> first | contradiction | (cases h; done) | skip
    rename_i he; cases he
    exact case_tup (sA T es c h)
  | .lst n es, e', X, E0, sc, c, h => by
    unfold mE at h; split at h <;> first | contradiction | (cases h; done) | skip
    rename_i he; cases he
    exact case_lst (sA T es c h)
  | .dk0, e', X, E0, sc, c, h => by
    unfold mE at h; split at h <;> first | contradiction | (cases h; done) | skip
    rename_i he; cases he
    exact case_dk0
  | .dt0, e', X, E0, sc, c, h => by
    unfold mE at h; split at h <;> first | contradiction | (cases h; done) | skip
    rename_i he; cases he
    exact case_dt0
  | .bin o a b, e', X, E0, sc, c, h => by
    unfold mE at h; split at h <;> first | contradiction | (cases h; done) | skip
    rename_i he; cases he
    simp only [Bool.and_eq_true] at h
    obtain ⟨⟨h1, h2⟩, h3⟩ := h
    exact case_bin h1 (sE T a c h2) (sE T b c h3)
  | .neg a, e', X, E0, sc, c, h => by
    unfold mE at h; split at h <;> first | contradiction | (cases h; done) | skip
    rename_i he; cases he
    exact case_neg (sE T a c h)
  | .cmp o a b, e', X, E0, sc, c, h => by
    unfold mE at h; split at h <;> first | contradiction | (cases h; done) | skip
    rename_i he; cases he
    simp only [Bool.and_eq_true] at h
    obtain ⟨⟨h1, h2⟩, h3⟩ := h
    exact case_cmp c h1 (mE_good h3) (sE T a c h2) (sE T b c h3)
  | .chn o p a b d, e', X, E0, sc, c, h => by
    unfold mE at h; split at h <;> first | contradiction | (cases h; done) | skip
    rename_i he; cases he
    simp only [Bool.and_eq_true] at h
    obtain ⟨⟨⟨⟨h1, h2⟩, h3⟩, h4⟩, h5⟩ := h
    exact case_chn c h1 h2 (mE_good h5) (sE T a c h3) (sE T b c h4) (sE T d c h5)
  | .and a b, e', X, E0, sc, c, h => by
    unfold mE at h; split at h <;> first | contradiction | (cases h; done) | skip
    rename_i he; cases he
    simp only [Bool.and_eq_true] at h
    exact case_and (sE T a c h.1) (sBo T b c h.2)
  | .or a b, e', X, E0, sc, c, h => by
    unfold mE at h; split at h <;> first | contradiction | (cases h; done) | skip
    rename_i he; cases he
    simp only [Bool.and_eq_true] at h
    exact case_or (sE T a c h.1) (sBo T b c h.2)
  | .not a, e', X, E0, sc, c, h => by
    unfold mE at h; split at h <;> first | contradiction | (cases h; done) | skip
    rename_i he; cases he
    exact case_not (sE T a c h)
  | .ifx d a b, e', X, E0, sc, c, h => by
    unfold mE at h; split at h <;> first | contradiction | (cases h; done) | skip
    rename_i he; cases he
    simp only [Bool.and_eq_true] at h
    obtain ⟨⟨h1, h2⟩, h3⟩ := h
    exact case_ifx (sT T d c h1) (sE T a c h2) (sE T b c h3)
  | .call f es, e', X, E0, sc, c, h => by
    unfold mE at h; split at h <;> first | contradiction | (cases h; done) | skip
    rename_i he; cases he
    simp only [Bool.and_eq_true] at h
    obtain ⟨⟨h1, h2⟩, h3⟩ := h
    exact case_call T c (of_decide_eq_true h1) h2 h3 (sA T es c h3)
  | .met m a es, e', X, E0, sc, c, h => by
    unfold mE at h; split at h <;> first | contradiction | (cases h; done) | skip
    rename_i he; cases he
    simp only [Bool.and_eq_true] at h
    obtain ⟨⟨⟨⟨⟨h1, h2⟩, h3⟩, h4⟩, h5⟩, h6⟩ := h
    exact case_met (of_decide_eq_true h1) h2 h3 h5 (by simpa using h6) (sE T a c h4) (sA T es c h5)
  | .mut m i es, e', X, E0, sc, c, h => by
    unfold mE at h; split at h <;> first | contradiction | (cases h; done) | skip
    rename_i he; cases he
    simp only [Bool.and_eq_true] at h
    obtain ⟨⟨⟨⟨h1, h2⟩, h3⟩, h4⟩, h5⟩ := h
    cases m with
    | app =>
      match es, h4, h5 with
      | [x], h4, _ => exact case_app' c (of_decide_eq_true h1) h2 h3 h4 (sA T [x] c h4)
    | pop =>
      match es, h4, h5 with
      | [], h4, _ => exact case_pop' c (of_decide_eq_true h1) h2 h3 h4
    | setd =>
      match es, h4, h5 with
      | [x, y], h4, _ => exact case_setd' c (of_decide_eq_true h1) h2 h3 h4 (fun e' h => sE T x c h) (fun e' h => sE T y c h)
  | .idx a b, e', X, E0, sc, c, h => by
    unfold mE at h; split at h <;> first | contradiction | (cases h; done) | skip
    rename_i he; cases he
    simp only [Bool.and_eq_true] at h
    obtain ⟨⟨h1, h2⟩, h3⟩ := h
    exact case_idx c (mE_good h3) (sE T a c h2) (sE T b c h3)
  | .slc a lo hi, e', X, E0, sc, c, h => by
    unfold mE at h; split at h <;> first | contradiction | (cases h; done) | skip
    rename_i he; cases he
    simp only [Bool.and_eq_true] at h
    obtain ⟨⟨h1, h2⟩, h3⟩ := h
    exact case_slc (sE T a c h1) (sO T lo c h2) (sO T hi c h3)
  | .lcp own tg src d e, e', X, E0, sc, c, h => by
    unfold mE at h; split at h <;> first | contradiction | (cases h; done) | skip
    rename_i he; cases he
    simp only [Bool.and_eq_true] at h
    obtain ⟨⟨⟨⟨⟨h1, h2⟩, h3⟩, h4⟩, h5⟩, h6⟩ := h
    exact case_lcp c.calm (by rw [c.eN]; exact c.nd) (by rw [c.eN, c.esc]; exact blkOk_by h1) h2 h3 (mI_good h4) (sI T src c h4) (fun _ _ _ _ _ => blk_locs c) (fun _ _ _ _ _ => sC T d (blk_cx c) h5) (fun _ _ _ _ _ => sE T e (blk_cx c) h6)
  | .dcp own tg src d ke e, e', X, E0, sc, c, h => by
    unfold mE at h; split at h <;> first | contradiction | (cases h; done) | skip
    rename_i he; cases he
    simp only [Bool.and_eq_true] at h
    obtain ⟨⟨⟨⟨⟨⟨h1, h2⟩, h3⟩, h4⟩, h5⟩, h6⟩, h7⟩ := h
    exact case_dcp c.calm (by rw [c.eN]; exact c.nd) (by rw [c.eN, c.esc]; exact blkOk_by h1) h2 h3 (mI_good h4) (sI T src c h4) (fun _ _ _ _ _ => blk_locs c) (fun _ _ _ _ _ => sC T d (blk_cx c) h5) (fun _ _ _ _ _ => sE T ke (blk_cx c) h6) (fun _ _ _ _ _ => sE T e (blk_cx c) h7)
  | .blt .listrev [a], e', X, E0, sc, c, h => by
    unfold mE at h; split at h <;> first | contradiction | (cases h; done) | skip
    · rename_i he; cases he
      simp only [Bool.and_eq_true] at h
      obtain ⟨⟨h1, h2⟩, h3⟩ := h
      exact case_listrev T c h1 h2 h3 (sE T a c h3)
    · rename_i hn he; cases he; exact (hn rfl).elim
  | .blt .listrev [], e', X, E0, sc, c, h => by unfold mE at h; first | (cases h; done) | (split at h <;> first | contradiction | (cases h; done))
  | .blt .listrev (_ :: _ :: _), e', X, E0, sc, c, h => by unfold mE at h; first | (cases h; done) | (split at h <;> first | contradiction | (cases h; done))
  | .blt .len es, e', X, E0, sc, c, h => by
    obtain ⟨fe, es', pos, rfl, h1, h2, h3⟩ := mE_blt (by decide) h
    exact case_blt0 T c (by decide) h1 h2 h3 (sA T es c h3)
  | .blt .int es, e', X, E0, sc, c, h => by
    obtain ⟨fe, es', pos, rfl, h1, h2, h3⟩ := mE_blt (by decide) h
    exact case_blt0 T c (by decide) h1 h2 h3 (sA T es c h3)
  | .blt .abs es, e', X, E0, sc, c, h => by
    obtain ⟨fe, es', pos, rfl, h1, h2, h3⟩ := mE_blt (by decide) h
    exact case_blt0 T c (by decide) h1 h2 h3 (sA T es c h3)
  | .blt .all es, e', X, E0, sc, c, h => by
    obtain ⟨fe, es', pos, rfl, h1, h2, h3⟩ := mE_blt (by decide) h
    exact case_blt0 T c (by decide) h1 h2 h3 (sA T es c h3)
  | .blt .any es, e', X, E0, sc, c, h => by
    obtain ⟨fe, es', pos, rfl, h1, h2, h3⟩ := mE_blt (by decide) h
    exact case_blt0 T c (by decide) h1 h2 h3 (sA T es c h3)
  | .blt .sum es, e', X, E0, sc, c, h => by
    obtain ⟨fe, es', pos, rfl, h1, h2, h3⟩ := mE_blt (by decide) h
    exact case_blt0 T c (by decide) h1 h2 h3 (sA T es c h3)
  | .blt .tuple es, e', X, E0, sc, c, h => by
    obtain ⟨fe, es', pos, rfl, h1, h2, h3⟩ := mE_blt (by decide) h
    exact case_blt0 T c (by decide) h1 h2 h3 (sA T es c h3)
  | .blt .list es, e', X, E0, sc, c, h => by
    obtain ⟨fe, es', pos, rfl, h1, h2, h3⟩ := mE_blt (by decide) h
    exact case_blt0 T c (by decide) h1 h2 h3 (sA T es c h3)
  | .blt .max2 es, e', X, E0, sc, c, h => by
    obtain ⟨fe, es', pos, rfl, h1, h2, h3⟩ := mE_blt (by decide) h
    exact case_blt0 T c (by decide) h1 h2 h3 (sA T es c h3)
  | .blt .min2 es, e', X, E0, sc, c, h => by
    obtain ⟨fe, es', pos, rfl, h1, h2, h3⟩ := mE_blt (by decide) h
    exact case_blt0 T c (by decide) h1 h2 h3 (sA T es c h3)
  | .isi ts a, e', X, E0, sc, c, h => by
    unfold mE at h; split at h <;> first | contradiction | (cases h; done) | skip
    · rename_i he; cases he
      simp only [Bool.and_eq_true] at h
      obtain ⟨⟨⟨h1, h2⟩, h3⟩, h4⟩ := h
      exact case_isi1 T c h1 h2 (mE_good h3) h4 (sE T a c h3)
    · rename_i he; cases he
      simp only [Bool.and_eq_true] at h
      obtain ⟨⟨⟨⟨h1, h2⟩, h3⟩, h4⟩, h5⟩ := h
      exact case_isiT T c h1 h2 (of_decide_eq_true h3) (mE_good h4) h5 (sE T a c h4)
  | .one a, e', X, E0, sc, c, h => by unfold mE at h; first | (cases h; done) | (split at h <;> first | contradiction | (cases h; done))
  | .seq a, e', X, E0, sc, c, h => by unfold mE at h; first | (cases h; done) | (split at h <;> first | contradiction | (cases h; done))
  | .rng1 a, e', X, E0, sc, c, h => by unfold mE at h; first | (cases h; done) | (split at h <;> first | contradiction | (cases h; done))
  | .rng2 a b, e', X, E0, sc, c, h => by unfold mE at h; first | (cases h; done) | (split at h <;> first | contradiction | (cases h; done))
  | .enm a, e', X, E0, sc, c, h => by unfold mE at h; first | (cases h; done) | (split at h <;> first | contradiction | (cases h; done))
  | .tst a, e', X, E0, sc, c, h => by unfold mE at h; first | (cases h; done) | (split at h <;> first | contradiction | (cases h; done))
termination_by structural e => e
theorem sA {Φ : Calls} {ER : Exn → Value → Option Addr → Hp → Hp → Prop} {P : Program} {w : World} {K : Frag} {mg : Str → Option Value} {base : Heap} {k : Nat} {N : List Str} {C : Cfg} (T : Tab C P w K mg base Φ ER k) :
    ∀ (e : List Ex) {e' : List Expr} {X : Cx} {E0 : WX} {sc : Scope}, CxOk P w K mg base k N sc E0 X → mEs C N sc e e' = true → SA Φ ER E0 X e e'
  | [], [], X, E0, sc, c, h => case_nil
  | [], _ :: _, X, E0, sc, c, h => by unfold mEs at h; cases h
  | _ :: _, [], X, E0, sc, c, h => by unfold mEs at h; cases h
  | e :: es, e' :: es', X, E0, sc, c, h => by
    unfold mEs at h
    rw [Bool.and_eq_true] at h
    exact case_cons (mE_good h.1) (sE T e c h.1) (sA T es c h.2)
termination_by structural e => e
theorem sO {Φ : Calls} {ER : Exn → Value → Option Addr → Hp → Hp → Prop} {P : Program} {w : World} {K : Frag} {mg : Str → Option Value} {base : Heap} {k : Nat} {N : List Str} {C : Cfg} (T : Tab C P w K mg base Φ ER k) :
    ∀ (e : Option Ex) {e' : Option Expr} {X : Cx} {E0 : WX} {sc : Scope}, CxOk P w K mg base k N sc E0 X → mO C N sc e e' = true → SO Φ ER E0 X e e'
  | none, none, X, E0, sc, c, h => caseO_none
  | none, some _, X, E0, sc, c, h => by unfold mO at h; cases h
  | some _, none, X, E0, sc, c, h => by unfold mO at h; cases h
  | some e, some e', X, E0, sc, c, h => by
    unfold mO at h
    exact caseO_some (sE T e c h)
termination_by structural e => e
theorem sC {Φ : Calls} {ER : Exn → Value → Option Addr → Hp → Hp → Prop} {P : Program} {w : World} {K : Frag} {mg : Str → Option Value} {base : Heap} {k : Nat} {N : List Str} {C : Cfg} (T : Tab C P w K mg base Φ ER k) :
    ∀ (e : Option Ex) {e' : List Expr} {X : Cx} {E0 : WX} {sc : Scope}, CxOk P w K mg base k N sc E0 X → mC C N sc e e' = true → SC Φ ER E0 X e e'
  | none, [], X, E0, sc, c, h => caseC_none
  | none, _ :: _, X, E0, sc, c, h => by unfold mC at h; cases h
  | some _, [], X, E0, sc, c, h => by unfold mC at h; cases h
  | some _, _ :: _ :: _, X, E0, sc, c, h => by unfold mC at h; cases h
  | some e, [e'], X, E0, sc, c, h => by
    unfold mC at h
    exact caseC_some (sT T e c h)
termination_by structural e => e
theorem sBo {Φ : Calls} {ER : Exn → Value → Option Addr → Hp → Hp → Prop} {P : Program} {w : World} {K : Frag} {mg : Str → Option Value} {base : Heap} {k : Nat} {N : List Str} {C : Cfg} (T : Tab C P w K mg base Φ ER k) :
    ∀ (e : Ex) {y : List Expr} {X : Cx} {E0 : WX} {sc : Scope} {kk : Bool} {pos : Pos}, CxOk P w K mg base k N sc E0 X → mBo C N sc kk e y = true → y ≠ [] ∧ SE Φ ER E0 X e (.BoolOp (if kk then .And else .Or) y pos)
  | .one a, y, X, E0, sc, kk, pos, c, h => by
    unfold mBo at h; split at h <;> first | contradiction | (cases h; done) | skip
    rename_i he; cases he
    exact ⟨by simp, case_one (sE T a c h)⟩
  | .and a b, y, X, E0, sc, kk, pos, c, h => by
    unfold mBo at h; split at h <;> first | contradiction | (cases h; done) | skip
    rename_i he; cases he
    simp only [Bool.and_eq_true] at h
    obtain ⟨⟨h1, h2⟩, h3⟩ := h
    subst h1
    exact ⟨by simp, case_and (sE T a c h2) (sBo T b c h3)⟩
  | .or a b, y, X, E0, sc, kk, pos, c, h => by
    unfold mBo at h; split at h <;> first | contradiction | (cases h; done) | skip
    rename_i he; cases he
    simp only [Bool.and_eq_true] at h
    obtain ⟨⟨h1, h2⟩, h3⟩ := h
    have h1 : kk = false := by simpa using h1
    subst h1
    exact ⟨by simp, case_or (sE T a c h2) (sBo T b c h3)⟩
  | .var _, y, X, E0, sc, kk, pos, c, h => by unfold mBo at h; first | (cases h; done) | (split at h <;> first | contradiction | (cases h; done))
  | .frz _, y, X, E0, sc, kk, pos, c, h => by unfold mBo at h; first | (cases h; done) | (split at h <;> first | contradiction | (cases h; done))
  | .mv _, y, X, E0, sc, kk, pos, c, h => by unfold mBo at h; first | (cases h; done) | (split at h <;> first | contradiction | (cases h; done))
  | .cst _, y, X, E0, sc, kk, pos, c, h => by unfold mBo at h; first | (cases h; done) | (split at h <;> first | contradiction | (cases h; done))
  | .glb _ _, y, X, E0, sc, kk, pos, c, h => by unfold mBo at h; first | (cases h; done) | (split at h <;> first | contradiction | (cases h; done))
  | .tup _ _, y, X, E0, sc, kk, pos, c, h => by unfold mBo at h; first | (cases h; done) | (split at h <;> first | contradiction | (cases h; done))
  | .lst _ _, y, X, E0, sc, kk, pos, c, h => by unfold mBo at h; first | (cases h; done) | (split at h <;> first | contradiction | (cases h; done))
  | .dk0, y, X, E0, sc, kk, pos, c, h => by unfold mBo at h; first | (cases h; done) | (split at h <;> first | contradiction | (cases h; done))
  | .dt0, y, X, E0, sc, kk, pos, c, h => by unfold mBo at h; first | (cases h; done) | (split at h <;> first | contradiction | (cases h; done))
  | .bin _ _ _, y, X, E0, sc, kk, pos, c, h => by unfold mBo at h; first | (cases h; done) | (split at h <;> first | contradiction | (cases h; done))
  | .neg _, y, X, E0, sc, kk, pos, c, h => by unfold mBo at h; first | (cases h; done) | (split at h <;> first | contradiction | (cases h; done))
  | .cmp _ _ _, y, X, E0, sc, kk, pos, c, h => by unfold mBo at h; first | (cases h; done) | (split at h <;> first | contradiction | (cases h; done))
  | .chn _ _ _ _ _, y, X, E0, sc, kk, pos, c, h => by unfold mBo at h; first | (cases h; done) | (split at h <;> first | contradiction | (cases h; done))
  | .not _, y, X, E0, sc, kk, pos, c, h => by unfold mBo at h; first | (cases h; done) | (split at h <;> first | contradiction | (cases h; done))
  | .ifx _ _ _, y, X, E0, sc, kk, pos, c, h => by unfold mBo at h; first | (cases h; done) | (split at h <;> first | contradiction | (cases h; done))
  | .call _ _, y, X, E0, sc, kk, pos, c, h => by unfold mBo at h; first | (cases h; done) | (split at h <;> first | contradiction | (cases h; done))
  | .blt _ _, y, X, E0, sc, kk, pos, c, h => by unfold mBo at h; first | (cases h; done) | (split at h <;> first | contradiction | (cases h; done))
  | .isi _ _, y, X, E0, sc, kk, pos, c, h => by unfold mBo at h; first | (cases h; done) | (split at h <;> first | contradiction | (cases h; done))
  | .met _ _ _, y, X, E0, sc, kk, pos, c, h => by unfold mBo at h; first | (cases h; done) | (split at h <;> first | contradiction | (cases h; done))
  | .mut _ _ _, y, X, E0, sc, kk, pos, c, h => by unfold mBo at h; first | (cases h; done) | (split at h <;> first | contradiction | (cases h; done))
  | .idx _ _, y, X, E0, sc, kk, pos, c, h => by unfold mBo at h; first | (cases h; done) | (split at h <;> first | contradiction | (cases h; done))
  | .slc _ _ _, y, X, E0, sc, kk, pos, c, h => by unfold mBo at h; first | (cases h; done) | (split at h <;> first | contradiction | (cases h; done))
  | .lcp _ _ _ _ _, y, X, E0, sc, kk, pos, c, h => by unfold mBo at h; first | (cases h; done) | (split at h <;> first | contradiction | (cases h; done))
  | .dcp _ _ _ _ _ _, y, X, E0, sc, kk, pos, c, h => by unfold mBo at h; first | (cases h; done) | (split at h <;> first | contradiction | (cases h; done))
  | .seq _, y, X, E0, sc, kk, pos, c, h => by unfold mBo at h; first | (cases h; done) | (split at h <;> first | contradiction | (cases h; done))
  | .rng1 _, y, X, E0, sc, kk, pos, c, h => by unfold mBo at h; first | (cases h; done) | (split at h <;> first | contradiction | (cases h; done))
  | .rng2 _ _, y, X, E0, sc, kk, pos, c, h => by unfold mBo at h; first | (cases h; done) | (split at h <;> first | contradiction | (cases h; done))
  | .enm _, y, X, E0, sc, kk, pos, c, h => by unfold mBo at h; first | (cases h; done) | (split at h <;> first | contradiction | (cases h; done))
  | .tst _, y, X, E0, sc, kk, pos, c, h => by unfold mBo at h; first | (cases h; done) | (split at h <;> first | contradiction | (cases h; done))
termination_by structural e => e
theorem sT {Φ : Calls} {ER : Exn → Value → Option Addr → Hp → Hp → Prop} {P : Program} {w : World} {K : Frag} {mg : Str → Option Value} {base : Heap} {k : Nat} {N : List Str} {C : Cfg} (T : Tab C P w K mg base Φ ER k) :
    ∀ (e : Ex) {e' : Expr} {X : Cx} {E0 : WX} {sc : Scope}, CxOk P w K mg base k N sc E0 X → mT C N sc e e' = true → ST Φ ER E0 X e e'
  | .not a, e', X, E0, sc, c, h => by
    unfold mT at h; split at h <;> first | contradiction | (cases h; done) | skip
    rename_i he; cases he
    exact caseT_not (sT T a c h)
  | .and a b, e', X, E0, sc, c, h => by
    unfold mT at h; split at h <;> first | contradiction | (cases h; done) | skip
    rename_i he; cases he
    simp only [Bool.and_eq_true] at h
    exact (caseT_and (sT T a c h.1) (sTo T b c h.2)).st
  | .or a b, e', X, E0, sc, c, h => by
    unfold mT at h; split at h <;> first | contradiction | (cases h; done) | skip
    rename_i he; cases he
    simp only [Bool.and_eq_true] at h
    exact (caseT_or (sT T a c h.1) (sTo T b c h.2)).st
  | .tst a, e', X, E0, sc, c, h => by
    unfold mT at h
    rw [Bool.and_eq_true] at h
    obtain ⟨h1, h2⟩ := h
    cases e' with
    | Compare l os rs pos =>
      cases a with
      | cmp o x y =>
        unfold mE at h1; split at h1 <;> first | contradiction | (cases h1; done) | skip
        rename_i he he2; cases he; cases he2
        simp only [Bool.and_eq_true] at h1
        obtain ⟨⟨h1, h2⟩, h3⟩ := h1
        exact caseT_cmp c h1 (mE_good h3) (sE T x c h2) (sE T y c h3)
      | chn o p x y z =>
        unfold mE at h1; split at h1 <;> first | contradiction | (cases h1; done) | skip
        rename_i he he2; cases he; cases he2
        simp only [Bool.and_eq_true] at h1
        obtain ⟨⟨⟨⟨h1, h2⟩, h3⟩, h4⟩, h5⟩ := h1
        exact caseT_chn c h1 h2 (mE_good h5) (sE T x c h3) (sE T y c h4) (sE T z c h5)
      | _ => exfalso; unfold mE at h1; first | (cases h1; done) | (split at h1 <;> first | contradiction | (cases h1; done)) | (unfold slotOk at h1; cases h1)
    | UnaryOp op _ _ => cases op <;> first | (cases h2; done) | exact caseT_tst rfl (sE T a c h1)
    | BoolOp => cases h2
    | IfExp => cases h2
    | _ => exact caseT_tst rfl (sE T a c h1)
  | .var _, e', X, E0, sc, c, h => by unfold mT at h; first | (cases h; done) | (split at h <;> first | contradiction | (cases h; done))
  | .frz _, e', X, E0, sc, c, h => by unfold mT at h; first | (cases h; done) | (split at h <;> first | contradiction | (cases h; done))
  | .mv _, e', X, E0, sc, c, h => by unfold mT at h; first | (cases h; done) | (split at h <;> first | contradiction | (cases h; done))
  | .cst _, e', X, E0, sc, c, h => by unfold mT at h; first | (cases h; done) | (split at h <;> first | contradiction | (cases h; done))
  | .glb _ _, e', X, E0, sc, c, h => by unfold mT at h; first | (cases h; done) | (split at h <;> first | contradiction | (cases h; done))
  | .tup _ _, e', X, E0, sc, c, h => by unfold mT at h; first | (cases h; done) | (split at h <;> first | contradiction | (cases h; done))
  | .lst _ _, e', X, E0, sc, c, h => by unfold mT at h; first | (cases h; done) | (split at h <;> first | contradiction | (cases h; done))
  | .dk0, e', X, E0, sc, c, h => by unfold mT at h; first | (cases h; done) | (split at h <;> first | contradiction | (cases h; done))
  | .dt0, e', X, E0, sc, c, h => by unfold mT at h; first | (cases h; done) | (split at h <;> first | contradiction | (cases h; done))
  | .bin _ _ _, e', X, E0, sc, c, h => by unfold mT at h; first | (cases h; done) | (split at h <;> first | contradiction | (cases h; done))
  | .neg _, e', X, E0, sc, c, h => by unfold mT at h; first | (cases h; done) | (split at h <;> first | contradiction | (cases h; done))
  | .cmp _ _ _, e', X, E0, sc, c, h => by unfold mT at h; first | (cases h; done) | (split at h <;> first | contradiction | (cases h; done))
  | .chn _ _ _ _ _, e', X, E0, sc, c, h => by unfold mT at h; first | (cases h; done) | (split at h <;> first | contradiction | (cases h; done))
  | .ifx _ _ _, e', X, E0, sc, c, h => by unfold mT at h; first | (cases h; done) | (split at h <;> first | contradiction | (cases h; done))
  | .call _ _, e', X, E0, sc, c, h => by unfold mT at h; first | (cases h; done) | (split at h <;> first | contradiction | (cases h; done))
  | .blt _ _, e', X, E0, sc, c, h => by unfold mT at h; first | (cases h; done) | (split at h <;> first | contradiction | (cases h; done))
  | .isi _ _, e', X, E0, sc, c, h => by unfold mT at h; first | (cases h; done) | (split at h <;> first | contradiction | (cases h; done))
  | .met _ _ _, e', X, E0, sc, c, h => by unfold mT at h; first | (cases h; done) | (split at h <;> first | contradiction | (cases h; done))
  | .mut _ _ _, e', X, E0, sc, c, h => by unfold mT at h; first | (cases h; done) | (split at h <;> first | contradiction | (cases h; done))
  | .idx _ _, e', X, E0, sc, c, h => by unfold mT at h; first | (cases h; done) | (split at h <;> first | contradiction | (cases h; done))
  | .slc _ _ _, e', X, E0, sc, c, h => by unfold mT at h; first | (cases h; done) | (split at h <;> first | contradiction | (cases h; done))
  | .lcp _ _ _ _ _, e', X, E0, sc, c, h => by unfold mT at h; first | (cases h; done) | (split at h <;> first | contradiction | (cases h; done))
  | .dcp _ _ _ _ _ _, e', X, E0, sc, c, h => by unfold mT at h; first | (cases h; done) | (split at h <;> first | contradiction | (cases h; done))
  | .seq _, e', X, E0, sc, c, h => by unfold mT at h; first | (cases h; done) | (split at h <;> first | contradiction | (cases h; done))
  | .rng1 _, e', X, E0, sc, c, h => by unfold mT at h; first | (cases h; done) | (split at h <;> first | contradiction | (cases h; done))
  | .rng2 _ _, e', X, E0, sc, c, h => by unfold mT at h; first | (cases h; done) | (split at h <;> first | contradiction | (cases h; done))
  | .enm _, e', X, E0, sc, c, h => by unfold mT at h; first | (cases h; done) | (split at h <;> first | contradiction | (cases h; done))
  | .one _, e', X, E0, sc, c, h => by unfold mT at h; first | (cases h; done) | (split at h <;> first | contradiction | (cases h; done))
termination_by structural e => e
theorem sTo {Φ : Calls} {ER : Exn → Value → Option Addr → Hp → Hp → Prop} {P : Program} {w : World} {K : Frag} {mg : Str → Option Value} {base : Heap} {k : Nat} {N : List Str} {C : Cfg} (T : Tab C P w K mg base Φ ER k) :
    ∀ (e : Ex) {y : List Expr} {X : Cx} {E0 : WX} {sc : Scope} {kk : Bool} {pos : Pos}, CxOk P w K mg base k N sc E0 X → mTo C N sc kk e y = true → y ≠ [] ∧ SW Φ ER E0 X e (.BoolOp (if kk then .And else .Or) y pos)
  | .one a, y, X, E0, sc, kk, pos, c, h => by
    unfold mTo at h; split at h <;> first | contradiction | (cases h; done) | skip
    rename_i he; cases he
    exact ⟨by simp, caseT_one (sT T a c h)⟩
  | .and a b, y, X, E0, sc, kk, pos, c, h => by
    unfold mTo at h; split at h <;> first | contradiction | (cases h; done) | skip
    rename_i he; cases he
    simp only [Bool.and_eq_true] at h
    obtain ⟨⟨h1, h2⟩, h3⟩ := h
    subst h1
    exact ⟨by simp, caseT_and (sT T a c h2) (sTo T b c h3)⟩
  | .or a b, y, X, E0, sc, kk, pos, c, h => by
    unfold mTo at h; split at h <;> first | contradiction | (cases h; done) | skip
    rename_i he; cases he
    simp only [Bool.and_eq_true] at h
    obtain ⟨⟨h1, h2⟩, h3⟩ := h
    have h1 : kk = false := by simpa using h1
    subst h1
    exact ⟨by simp, caseT_or (sT T a c h2) (sTo T b c h3)⟩
  | .var _, y, X, E0, sc, kk, pos, c, h => by unfold mTo at h; first | (cases h; done) | (split at h <;> first | contradiction | (cases h; done))
  | .frz _, y, X, E0, sc, kk, pos, c, h => by unfold mTo at h; first | (cases h; done) | (split at h <;> first | contradiction | (cases h; done))
  | .mv _, y, X, E0, sc, kk, pos, c, h => by unfold mTo at h; first | (cases h; done) | (split at h <;> first | contradiction | (cases h; done))
  | .cst _, y, X, E0, sc, kk, pos, c, h => by unfold mTo at h; first | (cases h; done) | (split at h <;> first | contradiction | (cases h; done))
  | .glb _ _, y, X, E0, sc, kk, pos, c, h => by unfold mTo at h; first | (cases h; done) | (split at h <;> first | contradiction | (cases h; done))
  | .tup _ _, y, X, E0, sc, kk, pos, c, h => by unfold mTo at h; first | (cases h; done) | (split at h <;> first | contradiction | (cases h; done))
  | .lst _ _, y, X, E0, sc, kk, pos, c, h => by unfold mTo at h; first | (cases h; done) | (split at h <;> first | contradiction | (cases h; done))
  | .dk0, y, X, E0, sc, kk, pos, c, h => by unfold mTo at h; first | (cases h; done) | (split at h <;> first | contradiction | (cases h; done))
  | .dt0, y, X, E0, sc, kk, pos, c, h => by unfold mTo at h; first | (cases h; done) | (split at h <;> first | contradiction | (cases h; done))
  | .bin _ _ _, y, X, E0, sc, kk, pos, c, h => by unfold mTo at h; first | (cases h; done) | (split at h <;> first | contradiction | (cases h; done))
  | .neg _, y, X, E0, sc, kk, pos, c, h => by unfold mTo at h; first | (cases h; done) | (split at h <;> first | contradiction | (cases h; done))
  | .cmp _ _ _, y, X, E0, sc, kk, pos, c, h => by unfold mTo at h; first | (cases h; done) | (split at h <;> first | contradiction | (cases h; done))
  | .chn _ _ _ _ _, y, X, E0, sc, kk, pos, c, h => by unfold mTo at h; first | (cases h; done) | (split at h <;> first | contradiction | (cases h; done))
  | .not _, y, X, E0, sc, kk, pos, c, h => by unfold mTo at h; first | (cases h; done) | (split at h <;> first | contradiction | (cases h; done))
  | .ifx _ _ _, y, X, E0, sc, kk, pos, c, h => by unfold mTo at h; first | (cases h; done) | (split at h <;> first | contradiction | (cases h; done))
  | .call _ _, y, X, E0, sc, kk, pos, c, h => by unfold mTo at h; first | (cases h; done) | (split at h <;> first | contradiction | (cases h; done))
  | .blt _ _, y, X, E0, sc, kk, pos, c, h => by unfold mTo at h; first | (cases h; done) | (split at h <;> first | contradiction | (cases h; done))
  | .isi _ _, y, X, E0, sc, kk, pos, c, h => by unfold mTo at h; first | (cases h; done) | (split at h <;> first | contradiction | (cases h; done))
  | .met _ _ _, y, X, E0, sc, kk, pos, c, h => by unfold mTo at h; first | (cases h; done) | (split at h <;> first | contradiction | (cases h; done))
  | .mut _ _ _, y, X, E0, sc, kk, pos, c, h => by unfold mTo at h; first | (cases h; done) | (split at h <;> first | contradiction | (cases h; done))
  | .idx _ _, y, X, E0, sc, kk, pos, c, h => by unfold mTo at h; first | (cases h; done) | (split at h <;> first | contradiction | (cases h; done))
  | .slc _ _ _, y, X, E0, sc, kk, pos, c, h => by unfold mTo at h; first | (cases h; done) | (split at h <;> first | contradiction | (cases h; done))
  | .lcp _ _ _ _ _, y, X, E0, sc, kk, pos, c, h => by unfold mTo at h; first | (cases h; done) | (split at h <;> first | contradiction | (cases h; done))
  | .dcp _ _ _ _ _ _, y, X, E0, sc, kk, pos, c, h => by unfold mTo at h; first | (cases h; done) | (split at h <;> first | contradiction | (cases h; done))
  | .seq _, y, X, E0, sc, kk, pos, c, h => by unfold mTo at h; first | (cases h; done) | (split at h <;> first | contradiction | (cases h; done))
  | .rng1 _, y, X, E0, sc, kk, pos, c, h => by unfold mTo at h; first | (cases h; done) | (split at h <;> first | contradiction | (cases h; done))
  | .rng2 _ _, y, X, E0, sc, kk, pos, c, h => by unfold mTo at h; first | (cases h; done) | (split at h <;> first | contradiction | (cases h; done))
  | .enm _, y, X, E0, sc, kk, pos, c, h => by unfold mTo at h; first | (cases h; done) | (split at h <;> first | contradiction | (cases h; done))
  | .tst _, y, X, E0, sc, kk, pos, c, h => by unfold mTo at h; first | (cases h; done) | (split at h <;> first | contradiction | (cases h; done))
termination_by structural e => e
theorem sI {Φ : Calls} {ER : Exn → Value → Option Addr → Hp → Hp → Prop} {P : Program} {w : World} {K : Frag} {mg : Str → Option Value} {base : Heap} {k : Nat} {N : List Str} {C : Cfg} (T : Tab C P w K mg base Φ ER k) :
    ∀ (e : Ex) {tg e' : Expr} {X : Cx} {E0 : WX} {sc : Scope}, CxOk P w K mg base k N sc E0 X → mI C N sc e tg e' = true → SI Φ ER E0 X e tg e'
  | .seq a, tg, e', X, E0, sc, c, h => by
    unfold mI at h
    exact caseI_seq (sE T a c h)
  | .rng1 a, tg, e', X, E0, sc, c, h => by
    unfold mI at h; split at h <;> first | contradiction | (cases h; done) | skip
    rename_i he; cases he
    simp only [Bool.and_eq_true] at h
    exact caseI_rng1 T c h.1 (mE_good h.2) (sE T a c h.2)
  | .rng2 a b, tg, e', X, E0, sc, c, h => by
    unfold mI at h; split at h <;> first | contradiction | (cases h; done) | skip
    rename_i he; cases he
    simp only [Bool.and_eq_true] at h
    exact caseI_rng2 T c h.1.1 (mE_good h.1.2) (mE_good h.2) (sE T a c h.1.2) (sE T b c h.2)
  | .enm a, tg, e', X, E0, sc, c, h => by
    unfold mI at h; split at h <;> first | contradiction | (cases h; done) | skip
    rename_i he; cases he
    simp only [Bool.and_eq_true] at h
    exact caseI_enm T c h.1 (mE_good h.2) (sE T a c h.2)
  | .var _, tg, e', X, E0, sc, c, h => by unfold mI at h; first | (cases h; done) | (split at h <;> first | contradiction | (cases h; done))
  | .frz _, tg, e', X, E0, sc, c, h => by unfold mI at h; first | (cases h; done) | (split at h <;> first | contradiction | (cases h; done))
  | .mv _, tg, e', X, E0, sc, c, h => by unfold mI at h; first | (cases h; done) | (split at h <;> first | contradiction | (cases h; done))
  | .cst _, tg, e', X, E0, sc, c, h => by unfold mI at h; first | (cases h; done) | (split at h <;> first | contradiction | (cases h; done))
  | .glb _ _, tg, e', X, E0, sc, c, h => by unfold mI at h; first | (cases h; done) | (split at h <;> first | contradiction | (cases h; done))
  | .tup _ _, tg, e', X, E0, sc, c, h => by unfold mI at h; first | (cases h; done) | (split at h <;> first | contradiction | (cases h; done))
  | .lst _ _, tg, e', X, E0, sc, c, h => by unfold mI at h; first | (cases h; done) | (split at h <;> first | contradiction | (cases h; done))
  | .dk0, tg, e', X, E0, sc, c, h => by unfold mI at h; first | (cases h; done) | (split at h <;> first | contradiction | (cases h; done))
  | .dt0, tg, e', X, E0, sc, c, h => by unfold mI at h; first | (cases h; done) | (split at h <;> first | contradiction | (cases h; done))
  | .bin _ _ _, tg, e', X, E0, sc, c, h => by unfold mI at h; first | (cases h; done) | (split at h <;> first | contradiction | (cases h; done))
  | .neg _, tg, e', X, E0, sc, c, h => by unfold mI at h; first | (cases h; done) | (split at h <;> first | contradiction | (cases h; done))
  | .cmp _ _ _, tg, e', X, E0, sc, c, h => by unfold mI at h; first | (cases h; done) | (split at h <;> first | contradiction | (cases h; done))
  | .chn _ _ _ _ _, tg, e', X, E0, sc, c, h => by unfold mI at h; first | (cases h; done) | (split at h <;> first | contradiction | (cases h; done))
  | .and _ _, tg, e', X, E0, sc, c, h => by unfold mI at h; first | (cases h; done) | (split at h <;> first | contradiction | (cases h; done))
  | .or _ _, tg, e', X, E0, sc, c, h => by unfold mI at h; first | (cases h; done) | (split at h <;> first | contradiction | (cases h; done))
  | .not _, tg, e', X, E0, sc, c, h => by unfold mI at h; first | (cases h; done) | (split at h <;> first | contradiction | (cases h; done))
  | .ifx _ _ _, tg, e', X, E0, sc, c, h => by unfold mI at h; first | (cases h; done) | (split at h <;> first | contradiction | (cases h; done))
  | .call _ _, tg, e', X, E0, sc, c, h => by unfold mI at h; first | (cases h; done) | (split at h <;> first | contradiction | (cases h; done))
  | .blt _ _, tg, e', X, E0, sc, c, h => by unfold mI at h; first | (cases h; done) | (split at h <;> first | contradiction | (cases h; done))
  | .isi _ _, tg, e', X, E0, sc, c, h => by unfold mI at h; first | (cases h; done) | (split at h <;> first | contradiction | (cases h; done))
  | .met _ _ _, tg, e', X, E0, sc, c, h => by unfold mI at h; first | (cases h; done) | (split at h <;> first | contradiction | (cases h; done))
  | .mut _ _ _, tg, e', X, E0, sc, c, h => by unfold mI at h; first | (cases h; done) | (split at h <;> first | contradiction | (cases h; done))
  | .idx _ _, tg, e', X, E0, sc, c, h => by unfold mI at h; first | (cases h; done) | (split at h <;> first | contradiction | (cases h; done))
  | .slc _ _ _, tg, e', X, E0, sc, c, h => by unfold mI at h; first | (cases h; done) | (split at h <;> first | contradiction | (cases h; done))
  | .lcp _ _ _ _ _, tg, e', X, E0, sc, c, h => by unfold mI at h; first | (cases h; done) | (split at h <;> first | contradiction | (cases h; done))
  | .dcp _ _ _ _ _ _, tg, e', X, E0, sc, c, h => by unfold mI at h; first | (cases h; done) | (split at h <;> first | contradiction | (cases h; done))
  | .one _, tg, e', X, E0, sc, c, h => by unfold mI at h; first | (cases h; done) | (split at h <;> first | contradiction | (cases h; done))
  | .tst _, tg, e', X, E0, sc, c, h => by unfold mI at h; first | (cases h; done) | (split at h <;> first | contradiction | (cases h; done))
termination_by structural e => e
end
end Mi
end
section
set_option Elab.async false
set_option linter.all false
set_option maxRecDepth 100000
namespace Mi
open PySem L2
section
variable {X : Cx}
theorem ps_setDc {i : Nat} {y : Str} {py : Pos} {kx vx tg iter : Expr} {ifs : List Expr} {scope : Scope} {own : List (Str × Nat)} {pos spos : Pos} {wi : TI} {g : TG} {tt : TT} {tk te : TE} (hc : X.calm = true) (hN : X.N.Nodup) (hy : X.N[i]? = some y) (hyl : X.env.scope.names.lookup y = some .local)
    (hsw : swapsWith (.DictComp kx vx [⟨tg, iter, ifs, 0⟩] scope pos) (some (.Name y py)) spos.line X.env = pure true) (hi : PI X tg iter wi) (ok : BlkOk X.N X.env.scope scope own)
    (hg : ∀ (s : Shared) (H : Hp) (C : Addr) (cl : List (Str × Addr)) (fp : List Addr), PG (X.blk s H scope (compEnvC scope cl C X.env) fp) tg g) (ht : ∀ (s : Shared) (H : Hp) (C : Addr) (cl : List (Str × Addr)) (fp : List Addr), PTs (X.blk s H scope (compEnvC scope cl C X.env) fp) ifs tt)
    (hk : ∀ (s : Shared) (H : Hp) (C : Addr) (cl : List (Str × Addr)) (fp : List Addr), PE (X.blk s H scope (compEnvC scope cl C X.env) fp) kx tk)
    (he : ∀ (s : Shared) (H : Hp) (C : Addr) (cl : List (Str × Addr)) (fp : List Addr), PE (X.blk s H scope (compEnvC scope cl C X.env) fp) vx te) (hs : ∀ x, foldedSetIterable iter X.env x = pure x := by intro _; rfl) :
    PS X (.Assign [.Name y py] (.DictComp kx vx [⟨tg, iter, ifs, 0⟩] scope pos) spos) (tAsg (tDc wi g tt tk te (own.map (·.2))) (gName i)) := by
  refine ⟨fun pins s σ H D I h => ?_⟩
  rw [exec_Assign_Name_used _ _ _ _ hsw]
  refine PySem.wpAny_bind (PySem.wpAny_standAt (PySem.wpAny_bind ?_))
  show PySem.wpAny _ X.A (do let _ ← comprehension (.DictComp kx vx [⟨tg, iter, ifs, 0⟩] scope pos) scope X.env (firstIterPos [⟨tg, iter, ifs, 0⟩] pos) newDict false (eval iter X.env) (some (assign (.Name y py) X.env))) _ _ s
  have h : tDc wi g tt tk te (own.map (·.2)) σ H (fun x H1 => gName i x σ H1 D.nx) := h
  refine PySem.wpAny_bind (thn (dc_core (Qf := fun _ s' => SP X pins D .next s') hc hN I hi ok hg ht hk he hs h fun L C s' m H' I' q hn f => ?_) fun _ s' hq => PySem.wpAny_pure (PySem.wpAny_pure hq))
  show PySem.wpAny _ _ (assign (.Name y py) X.env (.ref L)) _ _ _
  refine wpAny_assign_Name (store_ok2 (v := V.ref L) I' hN hy (.inl hyl) rfl (fun s2 I2 ⟨a, sb, ha⟩ => ?_) (.inr hyl))
  obtain ⟨f0, f1, f2, f3, f4, f5⟩ := f
  have haC : C ≠ a := by
    rcases ha with z | z
    · rw [z]; exact f1
    · exact fun e => f4 y a z e.symm
  refine ⟨m, hn.sameBut sb haC, fun h3 sb3 => ?_⟩
  exact ⟨_, H', I2.turned (t' := s2.toks) (fun b o hb e => (sb3.2 b hb).trans e) f0 f1 f3 f4 f5, q⟩
theorem sw_trueD {kx vx : Expr} {gs : List Comprehension} {scope : Scope} {pos py : Pos} {y : Str} {l : Nat} {env : PySem.Env} (hk : env.scope.kind = .function) (hy : env.scope.names.lookup y = some .local) (hl : (py.line == pos.line) = true)
    (ha : (scope.names.any fun (n, k) => n == y && (k == .local || k == .cell)) = false) : swapsWith (.DictComp kx vx gs scope pos) (some (.Name y py)) l env = pure true := by
  have ky : env.kindOf y = some .local := hy
  have hb : env.blockKind = .function := by unfold PySem.Env.blockKind; rw [hk]; rfl
  unfold swapsWith
  simp only [hb, ky, ha, Expr.pos, hl]
  rfl
end
end Mi
end
section
set_option Elab.async false
set_option linter.all false
set_option maxRecDepth 100000
namespace Mi
open PySem L2
section
variable {Φ : Calls} {Wn : Nat} {ER : Exn → Value → Option Addr → Hp → Hp → Prop} {E0 : XK} {X : Cx} {P : Program} {w : World} {K : Frag} {mg : Str → Option Value} {base : Heap} {k : Nat} {N : List Str} {sc : Scope} {C : Cfg}
variable {F H F' H' : Hp} {σ : L2.St} {env env' : Env} {fp : Nat → Addr → Prop} {pv : Nat → Option V} {M A : Addr → Prop} {D : Ends}
/-! ### an end of a statement -/
theorem PostS.go {A : Addr → Prop} {σ2 : L2.St} {F2 H2 : Hp} {fp2 : Nat → Addr → Prop} (P : PostS ER E0 pv (.ok .nx env) M F H D) (S : Stt F2 H2 σ2 env fp2 pv) (st : Step M F H (cov fp2) F2 H2) : D.nx σ2 H2 := P σ2 F2 H2 fp2 S st
theorem readS_set {i : Nat} {e : Ex} {t : TE} (hr : SR Φ ER (Wk E0) e t) (S : Stt F H σ env fp pv) (P : PostS ER E0 pv (exc Φ Wn (.set i e) env) (cov fp) F H D) : tAsg t (gName i) D σ H := by
  unfold exc at P
  refine hr env F H σ pv fp _ S (P.sp0 fun r e1 v F1 H1 fp1 A1 eo S1 st1 r1 n1 ap1 P1 => ?_)
  cases es : store e1 i r with
  | none => simp only [es] at P1; exact P1.elim
  | some e2 =>
    simp only [es, Option.map_some, ofO_some, Rs.bind_ok] at P1
    obtain ⟨F2, fp2, S2, st2⟩ := store_ok S1 r1 n1 ap1 es
    exact P1 _ F2 H1 fp2 S2 st2
theorem we_sr {e : Ex} {e' : Expr} (h : SE Φ ER (Wk E0) X e e') : SR Φ ER (Wk E0) e (WE X e') := h
theorem loc_of {x : Str} (L : Locs N sc X) (h : loc sc x = true) : Loc X.env.scope x ∧ (X.fn x = true ∨ X.env.scope.names.lookup x = some .local) := L.ok x h
theorem plain_sw {x : Str} {px : Pos} {e' : Expr} {l : Nat} {en : PySem.Env} (h : plainE e' = true) (t : Option Expr) : swapsWith e' t l en = pure false := by
  cases e' <;> first | rfl | cases h
theorem cell_sw {x : Str} {px : Pos} {e' : Expr} {l : Nat} {en : PySem.Env} (h : en.scope.names.lookup x = some .cell) (hc : (match e' with | .ListComp .. => true | .DictComp .. => true | _ => false) = true) : swapsWith e' (some (.Name x px)) l en = pure false := by
  have k : en.kindOf x = some .cell := h
  have z : (some NameKind.cell == some NameKind.local) = false := by decide
  cases e' <;> first | (cases hc; done) | (unfold swapsWith; simp only [k, z, Bool.and_false, Bool.false_and]; done) | (unfold swapsWith; simp only [k, z, Bool.and_false, Bool.false_and]; rfl)
theorem case_set {i : Nat} {e : Ex} {e' : Expr} {x : Str} {px pos : Pos} (L : Locs N sc X) (hi : N[i]? = some x) (hx : loc sc x = true) (hsw : swapsWith e' (some (.Name x px)) pos.line X.env = pure false) (he : SE Φ ER (Wk E0) X e e') : SS Φ Wn ER E0 X (.set i e) (.Assign [.Name x px] e' pos) := by
  intro env F H σ pv fp D S P
  obtain ⟨l1, l2⟩ := L.ok x hx
  exact ⟨_, ps_set (by rw [L.eN]; exact L.nd) (by rw [L.eN]; exact hi) l1 WE.pe hsw l2, readS_set (we_sr he) S P⟩
theorem swapT_of {x : Str} {px pv : Pos} {scope : Scope} (h : swapT sc x px scope pv = true) : sc.kind = .function ∧ sc.names.lookup x = some .local ∧ (px.line == pv.line) = true ∧ (scope.names.any fun (n, k) => n == x && (k == .local || k == .cell)) = false := by
  unfold swapT at h
  simp only [Bool.and_eq_true, decide_eq_true_eq, Bool.not_eq_true'] at h
  obtain ⟨⟨⟨h1, h2⟩, h3⟩, h4⟩ := h
  refine ⟨?_, h2, h3, h4⟩
  split at h1
  · assumption
  · cases h1
theorem case_setL {i : Nat} {x : Str} {px spos : Pos} {own : List (Str × Nat)} {tg : Tg} {src : Ex} {c : Option Ex} {e : Ex} {e' tg' it' : Expr} {ifs' : List Expr} {scope : Scope} {pos : Pos} (L : Locs N sc X) (cx : CxOk P w K mg base k N sc (Wk E0) X) (hi : N[i]? = some x) (hsw : swapT sc x px scope pos = true) (hblk : BlkOk X.N X.env.scope scope own) (hgi : badE it' = false)
    (h : SR Φ ER (Wk E0) (.lcp own tg src c e) (tLc (WI X tg' it') (lcG X scope tg') (lcT X scope ifs') (lcE X scope e') (own.map (·.2)))) : SS Φ Wn ER E0 X (.set i (.lcp own tg src c e)) (.Assign [.Name x px] (.ListComp e' [⟨tg', it', ifs', 0⟩] scope pos) spos) := by
  intro env F H σ pv fp D S P
  obtain ⟨s1, s2, s3, s4⟩ := swapT_of hsw
  have hN : X.N.Nodup := by rw [L.eN]; exact L.nd
  exact ⟨_, ps_setLc cx.calm hN (by rw [L.eN]; exact hi) (by rw [cx.esc]; exact s2) (sw_true (by rw [cx.esc]; exact s1) (by rw [cx.esc]; exact s2) s3 s4) WI.pi hblk lcG_ok lcT_ok lcE_ok (fold_good hgi), readS_set h S P⟩
theorem case_setD {i : Nat} {x : Str} {px spos : Pos} {own : List (Str × Nat)} {tg : Tg} {src : Ex} {c : Option Ex} {ke e : Ex} {k' e' tg' it' : Expr} {ifs' : List Expr} {scope : Scope} {pos : Pos} (L : Locs N sc X) (cx : CxOk P w K mg base k N sc (Wk E0) X) (hi : N[i]? = some x) (hsw : swapT sc x px scope pos = true) (hblk : BlkOk X.N X.env.scope scope own) (hgi : badE it' = false)
    (h : SR Φ ER (Wk E0) (.dcp own tg src c ke e) (tDc (WI X tg' it') (lcG X scope tg') (lcT X scope ifs') (lcE X scope k') (lcE X scope e') (own.map (·.2)))) : SS Φ Wn ER E0 X (.set i (.dcp own tg src c ke e)) (.Assign [.Name x px] (.DictComp k' e' [⟨tg', it', ifs', 0⟩] scope pos) spos) := by
  intro env F H σ pv fp D S P
  obtain ⟨s1, s2, s3, s4⟩ := swapT_of hsw
  have hN : X.N.Nodup := by rw [L.eN]; exact L.nd
  exact ⟨_, ps_setDc cx.calm hN (by rw [L.eN]; exact hi) (by rw [cx.esc]; exact s2) (sw_trueD (by rw [cx.esc]; exact s1) (by rw [cx.esc]; exact s2) s3 s4) WI.pi hblk lcG_ok lcT_ok lcE_ok lcE_ok (fold_good hgi), readS_set h S P⟩
/-! ### the flat ones -/
theorem nxP (P : PostS ER E0 pv (.ok .nx env) (cov fp) F H D) (S : Stt F H σ env fp pv) : D.nx σ H := P σ F H fp S (Step.refl.weak (fun _ q => q) fun _ q => .inl q)
theorem case_pass {pos : Pos} : SS Φ Wn ER E0 X .pass (.Pass pos) := by
  intro env F H σ pv fp D S P
  unfold exc at P
  exact ⟨_, ps_pass, nxP P S⟩
theorem case_brk {pos : Pos} : SS Φ Wn ER E0 X .brk (.Break pos) := by
  intro env F H σ pv fp D S P
  unfold exc at P
  exact ⟨_, ps_break, P σ F H fp S (Step.refl.weak (fun _ q => q) fun _ q => .inl q)⟩
theorem case_cnt {pos : Pos} : SS Φ Wn ER E0 X .cnt (.Continue pos) := by
  intro env F H σ pv fp D S P
  unfold exc at P
  exact ⟨_, ps_continue, P σ F H fp S (Step.refl.weak (fun _ q => q) fun _ q => .inl q)⟩
theorem case_expr {e : Ex} {e' : Expr} {pos : Pos} (hp : plainE e' = true) (he : SE Φ ER (Wk E0) X e e') : SS Φ Wn ER E0 X (.expr e) (.Expr e' pos) := by
  intro env F H σ pv fp D S P
  unfold exc at P
  refine ⟨_, ps_expr WE.pe (plain_sw (x := "") (px := pos) hp _), ?_⟩
  refine he env F H σ pv fp _ S (P.sp0 fun r e1 v F1 H1 fp1 A1 eo S1 st1 r1 n1 ap1 P1 => ?_)
  exact P1 σ F1 H1 fp1 S1 (Step.refl.weak (fun _ q => .inl q) fun _ q => .inl q)
theorem case_retn {pos : Pos} : SS Φ Wn ER E0 X .retn (.Return none pos) := by
  intro env F H σ pv fp D S P
  unfold exc at P
  exact ⟨_, ps_retN, P .non σ F H fp none1 S (step_ref (A := none1)) .non (fun _ z => z.elim) (fun _ z => z.elim)⟩
theorem case_ifs {c : Ex} {a b : Sm} {c' : Expr} {a' b' : List Stmt} {pos : Pos} (hc : ST Φ ER (Wk E0) X c c') (ha : SB Φ Wn ER E0 X a a') (hb : SB Φ Wn ER E0 X b b') : SS Φ Wn ER E0 X (.ifs c a b) (.If c' a' b' pos) := by
  intro env F H σ pv fp D S P
  unfold exc at P
  refine ⟨_, ps_if WT.pt WB.pss WB.pss, ?_⟩
  refine hc env F H σ pv fp _ S (P.sp0 fun r e1 v F1 H1 fp1 A1 eo S1 st1 r1 n1 ap1 P1 => ?_)
  cases r1
  cases r with
  | true => exact ha e1 F1 H1 σ pv fp1 D S1 (P1.less fun b q => .inl q)
  | false => exact hb e1 F1 H1 σ pv fp1 D S1 (P1.less fun b q => .inl q)
theorem case_skip : SB Φ Wn ER E0 X .skip [] := by
  intro env F H σ pv fp D S P
  unfold exc at P
  exact ⟨_, pss_nil, nxP P S⟩
end
end Mi
end
section
set_option Elab.async false
set_option linter.all false
set_option maxRecDepth 100000
namespace Mi
open PySem L2
section
variable {X : Cx}
/-- o[i] = v, o a list or a dict -/
def rSetA : TSet := fun o i v H Q => rSetL o i v H Q ∨ ∃ a H', o = .ref a ∧ DPut H a i v H' ∧ Q H'
theorem set_any (hu : X.A.units + 1 < cLine) : PSet X rSetA := by
  intro pins s σ H o i v ov iv u Q I ro ri rv h
  rcases h with h | ⟨a, H', rfl, g, q⟩
  · exact set_list pins s σ H o i v ov iv u Q I ro ri rv h
  · obtain rfl : ov = Value.ref a := ro
    exact d_setItem hu I g ri rv fun s' I' => ⟨H', I', q⟩
end
section
variable {Φ : Calls} {Wn : Nat} {ER : Exn → Value → Option Addr → Hp → Hp → Prop} {E0 : XK} {X : Cx} {P : Program} {w : World} {K : Frag} {mg : Str → Option Value} {base : Heap} {k : Nat} {N : List Str} {sc : Scope} {C : Cfg}
variable {F H F' H' : Hp} {σ : L2.St} {env env' : Env} {fp : Nat → Addr → Prop} {pv : Nat → Option V} {M A : Addr → Prop} {D : Ends}
theorem sub_swap {o i e' : Expr} {tp pos : Pos} {l : Nat} {en : PySem.Env} (h : plainE e' = true) : swapsWithSole [.Subscript o i tp] e' l en = pure false := by
  cases e' <;> first | rfl | cases h
theorem sub_stores {o i e' : Expr} {tp : Pos} {en : PySem.Env} : swappedStores [.Subscript o i tp] e' en = pure none := by
  cases e' <;> rfl
theorem case_sidx {i : Nat} {ke e : Ex} {a' k' e' : Expr} {tp pos : Pos} (c : CxOk P w K mg base k N sc (Wk E0) X) (hs : slotOk N sc i a' = true) (hp : plainE e' = true) (hg : badE k' = false) (hk : SE Φ ER (Wk E0) X ke k') (he : SE Φ ER (Wk E0) X e e') :
    SS Φ Wn ER E0 X (.sidx i ke e) (.Assign [.Subscript a' k' tp] e' pos) := by
  intro env F H σ pv fp D S P
  unfold exc at P
  refine ⟨_, ps_asg WE.pe (pg_sub (slot_name c hs) WE.pe (set_any (Nat.lt_of_le_of_lt (by omega) (units_of c))) (by intro v; cases k' <;> first | rfl | cases hg)) (sub_swap (pos := pos) hp) sub_stores (by rfl), ?_⟩
  refine he env F H σ pv fp _ S (P.sp0 fun r e1 v F1 H1 fp1 A1 eo S1 st1 r1 n1 ap1 P1 => ?_)
  cases eo1 : obj e1 i with
  | none => rw [eo1] at P1; exact P1.elim
  | some p =>
    rw [eo1] at P1
    simp only [Option.isSome_some, if_true] at P1
    obtain ⟨n0, d0⟩ := p
    obtain ⟨z, hv, _⟩ := S1.objn eo1
    refine ⟨z, hv, ?_⟩
    refine hk e1 F1 H1 σ pv fp1 _ S1 (P1.sp (M0 := cov fp1) (A := A1) (fun b q => .inl q) (fun b q => .inr q) n1 ap1 fun q e2 u F2 H2 fp2 A2 eo2 S2 st2 r2 n2 ap2 nA aA P2 => ?_)
    cases ek : keep e2 r with
    | none => simp only [ek] at P2; exact P2.elim
    | some p =>
      obtain ⟨x, e3⟩ := p
      simp only [ek] at P2
      cases q with
      | ow n d => exact P2.elim
      | vw j => exact P2.elim
      | fz kd =>
        dsimp only at P2
        obtain ⟨F3, fp3, S3, st3, hx⟩ := keep_ok S2 (r1.step n1 st2 ap1) nA (fun b x y => aA b x (.inl y)) ek
        have hkd : At F3 u kd := At.mono st3.sub r2
        have P3 := (P2.less (M' := or2 (cov fp2) A1) fun b q => by
          rcases q with q | q
          · exact .inl (.inl q)
          · exact .inr q).step st3
        have main : ∀ (s : SV) (d d' : Mi.D) (e4 : Env), e3[i]? = some s → obj e3 i = some (1, d) → sidxD d kd x = some d' → e4 = e3.set i (setObj s d') → PostS ER E0 pv (.ok .nx e4) (cov fp3) F3 H2 D → rSetA z u v H2 fun H3 => D.nx σ H3 := by
          intro s d d' e4 es eo ed e4e P4
          subst e4e
          obtain ⟨z', hv', ho⟩ := S3.objn eo
          rw [hv] at hv'; cases hv'
          have fin : ∀ (a : Addr) (o : HO), fp3 i a → Own F3 (upd H2 a o) 1 (fp3 i) z d' → D.nx σ (upd H2 a o) := fun a o ha hn => by
            obtain ⟨S4, st4⟩ := S3.write es eo ha hv hn
            exact P4 σ F3 _ fp3 S4 st4
          cases d with
          | lst ds =>
            obtain ⟨a, vs, rfl, ha, hh, kk⟩ := ho
            have kk := kids1.1 kk
            cases kd with
            | int j =>
              cases hkd
              simp only [sidxD] at ed
              cases ej : ixN ds.length j with
              | none => rw [ej] at ed; cases ed
              | some m =>
                rw [ej] at ed; cases ed
                refine .inl ⟨a, vs, j, m, rfl, rfl, hh, by rw [kk.length]; exact ej, ?_⟩
                exact fin a _ ha ⟨a, _, rfl, ha, upd_same, kids1.2 (AtL.set hx m kk)⟩
            | _ => cases ed
          | dk ks ds =>
            obtain ⟨a, kvs, rfl, ha, hh, rfl, kk⟩ := ho
            have kk := kids1.1 kk
            simp only [sidxD, dput] at ed
            split at ed
            · rename_i hl
              cases ekey : kd.key with
              | none => rw [ekey] at ed; cases ed
              | some key =>
                rw [ekey] at ed; cases ed
                obtain ⟨z1, z2⟩ := put_at (k := key) hx kk
                refine .inr ⟨a, _, rfl, ?_, fin a (.dK (putK kvs key v)) ha ⟨a, _, rfl, ha, upd_same, by rw [z1], kids1.2 z2⟩⟩
                rw [key_of_at hkd ekey]
                exact DPut.k hh (by simpa using hl)
            · cases ed
          | dt ks ds =>
            obtain ⟨a, kvs, rfl, ha, hh, rfl, kk⟩ := ho
            have kk := kids1.1 kk
            simp only [sidxD, dput] at ed
            split at ed
            · rename_i hl
              cases ekey : kd.keys with
              | none => rw [ekey] at ed; cases ed
              | some key =>
                rw [ekey] at ed; cases ed
                obtain ⟨b, rfl, hb⟩ := dkeys_at (Pk.of_at S3.sub hkd) ekey
                obtain ⟨z1, z2⟩ := put_at (k := key) hx kk
                refine .inr ⟨a, _, rfl, ?_, fin a (.dT (putK kvs key v)) ha ⟨a, _, rfl, ha, upd_same, by rw [z1], kids1.2 z2⟩⟩
                exact DPut.t hh (S3.sub _ _ hb) (by simpa using hl)
            · cases ed
          | _ => cases ed
        show rSetA z u v H2 fun H3 => D.nx σ H3
        cases es : e3[i]? with
        | none => simp only [es] at P3; exact P3.elim
        | some s =>
          simp only [es] at P3
          split at P3
          · rename_i d he
            cases he
            split at P3
            · rename_i d' ed; exact main _ d d' _ es (by simp [obj, es]) ed rfl P3
            · exact P3.elim
          · rename_i d he
            cases he
            split at P3
            · rename_i d' ed; exact main _ d d' _ es (by simp [obj, es]) ed rfl P3
            · exact P3.elim
          · exact P3.elim
end
end Mi
end
section
set_option Elab.async false
set_option linter.all false
set_option maxRecDepth 100000
namespace Mi
open PySem L2
section
variable {Φ : Calls} {Wn : Nat} {ER : Exn → Value → Option Addr → Hp → Hp → Prop} {E0 : XK} {X : Cx} {P : Program} {w : World} {K : Frag} {mg : Str → Option Value} {base : Heap} {k : Nat} {N : List Str} {sc : Scope} {C : Cfg}
variable {F H F' H' : Hp} {σ : L2.St} {env env' : Env} {fp : Nat → Addr → Prop} {pv : Nat → Option V} {M A : Addr → Prop} {D : Ends}
/-! ### targets bound to a new tuple's parts -/
theorem store_ow {i n : Nat} {v : V} {d : Mi.D} {e' : Env} {B : Addr → Prop} (S : Stt F H σ env fp pv) (h : Own F H n B v d) (no : Nof F H B) (ap : Apart B (cov fp)) (e : store env i (.ow n d) = some e') : Stt F H (σ.set i (some v)) e' (put1 fp i B) pv := by
  unfold store at e
  split at e
  · rename_i hf
    cases e
    exact S.put hf ⟨v, rfl, h⟩ (fun _ _ q => by cases q) no (fun j _ b x y => ap b x ⟨j, y⟩)
  · cases e
theorem tgtO_ok {sl : Scope} (L : Locs N sl X) {n : Nat} : ∀ (ts : List Tg) (es : List Expr) {env e2 : Env} {σ : L2.St} {fp : Nat → Addr → Prop} {vs : List V} {ds : List Mi.D} {B : Nat → Addr → Prop} {Q : L2.St → Hp → Prop}, mTgs N sl ts es = true → Stt F H σ env fp pv → vs.length = ds.length →
    (∀ (i : Nat) v d, vs[i]? = some v → ds[i]? = some d → Own F H n (B i) v d) → (∀ i j b, B i b → B j b → i = j) → Nof F H (cov B) → Apart (cov B) (cov fp) → tgtO n ts ds env = some e2 →
    (∀ σ2 fp2, Stt F H σ2 e2 fp2 pv → (∀ b, cov fp2 b → cov fp b ∨ cov B b) → Q σ2 H) → ∃ t, PGs X es t ∧ t vs σ H Q
  | [], [], env, e2, σ, fp, vs, ds, B, Q, _, S, hl, _, _, _, _, ht, q => by
    cases ds with
    | nil =>
      cases vs with
      | nil =>
        simp [tgtO] at ht; subst ht
        exact ⟨_, pgs_nil, rfl, q σ fp S fun _ z => .inl z⟩
      | cons _ _ => cases hl
    | cons _ _ => simp [tgtO] at ht
  | [], _ :: _, _, _, _, _, _, _, _, _, hm, _, _, _, _, _, _, _, _ => by simp [mTgs] at hm
  | _ :: _, [], _, _, _, _, _, _, _, _, hm, _, _, _, _, _, _, _, _ => by simp [mTgs] at hm
  | .tp _ :: _, _ :: _, _, _, _, _, _, _, _, _, _, _, _, _, _, _, _, ht, _ => by simp [tgtO] at ht
  | .nm i :: ts, e :: es, env, e2, σ, fp, vs, ds, B, Q, hm, S, hl, ho, hd, hno, hap, ht, q => by
    rw [mTgs, Bool.and_eq_true] at hm
    cases ds with
    | nil => simp [tgtO] at ht
    | cons d ds =>
      cases vs with
      | nil => cases hl
      | cons v vs =>
        rw [tgtO] at ht
        cases e1 : store env i (if n = 0 then .fz d else .ow n d) with
        | none => rw [e1] at ht; cases ht
        | some en1 =>
          rw [e1, Option.bind_some] at ht
          have h0 := ho 0 v d rfl rfl
          have put : ∃ fp1, Stt F H (σ.set i (some v)) en1 fp1 pv ∧ (∀ b, cov fp1 b → cov fp b ∨ B 0 b) := by
            by_cases hn : n = 0
            · subst hn
              rw [if_pos rfl] at e1
              obtain ⟨S', c⟩ := store_fz S h0 e1
              exact ⟨_, S', fun b z => .inl (c b z)⟩
            · rw [if_neg hn] at e1
              exact ⟨_, store_ow S h0 (fun b z => hno b ⟨0, z⟩) (fun b x y => hap b ⟨0, x⟩ y) e1, fun b z => put1_cov z⟩
          obtain ⟨fp1, S1, c1⟩ := put
          have hm1 := hm.1
          cases e with
          | Name x p =>
            rw [mTg, Bool.and_eq_true] at hm1
            obtain ⟨l1, l2⟩ := L.ok x hm1.2
            obtain ⟨t, ht1, ht2⟩ := tgtO_ok L ts es (B := fun j => B (j + 1)) (Q := Q) hm.2 S1 (by simpa using hl) (fun j v' d' a b => ho (j + 1) v' d' (by simpa using a) (by simpa using b)) (fun a b c x y => by
                have := hd _ _ c x y; omega) (fun b ⟨j, z⟩ => hno b ⟨j + 1, z⟩) (fun b ⟨j, x⟩ y => by
                rcases c1 b y with y | y
                · exact hap b ⟨j + 1, x⟩ y
                · exact absurd (hd _ _ b x y) (by omega)) ht fun σ2 fp2 S2 c2 => q σ2 fp2 S2 fun b z => by
                rcases c2 b z with z | ⟨j, z⟩
                · rcases c1 b z with z | z
                  · exact .inl z
                  · exact .inr ⟨0, z⟩
                · exact .inr ⟨j + 1, z⟩
            exact ⟨_, pgs_cons (pg_name (i := i) (by rw [L.eN]; exact L.nd) (by rw [L.eN]; exact of_decide_eq_true hm1.1) l1 l2) ht1 (by rfl), _, _, rfl, ht2⟩
          | _ => simp [mTg] at hm1
theorem tgtO_len {n : Nat} : ∀ {ts : List Tg} {ds : List Mi.D} {env e2 : Env}, tgtO n ts ds env = some e2 → ts.length = ds.length
  | [], [], _, _, _ => rfl
  | [], _ :: _, _, _, h => by simp [tgtO] at h
  | .tp _ :: _, [], _, _, h => by simp [tgtO] at h
  | .nm _ :: _, [], _, _, h => by simp [tgtO] at h
  | .tp _ :: _, _ :: _, _, _, h => by simp [tgtO] at h
  | .nm i :: ts, d :: ds, env, e2, h => by
    rw [tgtO] at h
    cases e1 : store env i (if n = 0 then .fz d else .ow n d) with
    | none => rw [e1] at h; cases h
    | some en1 =>
      rw [e1, Option.bind_some] at h
      rw [List.length_cons, List.length_cons, tgtO_len h]
theorem tup_swap {es : List Expr} {j : Nat} {tp : Pos} {e' : Expr} {l : Nat} {en : PySem.Env} (h : plainE e' = true) : swapsWithSole [.Tuple es j tp] e' l en = pure false := by
  cases e' <;> first | rfl | cases h
theorem tup_stores {es : List Expr} {j : Nat} {tp : Pos} {e' : Expr} {en : PySem.Env} (h : (match e' with | .Tuple .. => false | _ => plainE e') = true) : swappedStores [.Tuple es j tp] e' en = pure none := by
  cases e' <;> first | rfl | cases h
theorem notup {e' : Expr} (h : (match e' with | .Tuple .. => false | _ => plainE e') = true) : plainE e' = true := by
  cases e' <;> first | rfl | cases h
theorem case_unp {ts : List Tg} {e : Ex} {es : List Expr} {j : Nat} {e' : Expr} {tp pos : Pos} (L : Locs N sc X) (hp : (match e' with | .Tuple .. => false | _ => plainE e') = true) (hm : mTgs N sc ts es = true) (he : SE Φ ER (Wk E0) X e e') :
    SS Φ Wn ER E0 X (.unp (.tp ts) e) (.Assign [.Tuple es j tp] e' pos) := by
  intro env F H σ pv fp D S P
  unfold exc at P
  refine ⟨_, ps_asg WE.pe WG.pg (tup_swap (notup hp)) (tup_stores hp) (by rfl), ?_⟩
  refine he env F H σ pv fp _ S (P.sp0 fun r e1 v F1 H1 fp1 A1 eo S1 st1 r1 n1 ap1 P1 => ?_)
  cases r with
  | vw i => exact P1.elim
  | fz d =>
    dsimp only at P1
    cases et : tgt (.tp ts) d e1 with
    | none => rw [et] at P1; exact P1.elim
    | some e2 =>
      rw [et] at P1
      exact tg_ok L (.tp ts) (.Tuple es j tp) hm S1 r1 et fun σ2 fp2 S2 c2 _ => P1 σ2 F1 H1 fp2 S2 (Step.refl.weak (fun b q => .inl q) fun b q => .inl (c2 b q))
  | ow m d =>
    cases m with
    | zero => exact P1.elim
    | succ n =>
      cases d with
      | tup ds =>
        dsimp only at P1
        cases et : tgtO n ts ds e1 with
        | none => rw [et] at P1; exact P1.elim
        | some e2 =>
          rw [et] at P1
          obtain ⟨a, vs, rfl, ha, hh, l, B, b1, b2, b3⟩ := r1
          obtain ⟨m1, m2⟩ := each_len (ts := ts) (en := X.env) hm
          have cB : ∀ b, cov B b → A1 b := fun b ⟨i, z⟩ => (b1 i b z).1
          refine ⟨_, pg_tup L.calm WGs.pgs rfl m2, _, _, rfl, SqT.of hh, ?_, tgtO_ok L ts es hm S1 l b3 b2 (n1.le cB) (ap1.le cB) et fun σ2 fp2 S2 c2 => P1 σ2 F1 H1 fp2 S2 (Step.refl.weak (fun b q => q) fun b q => .inl ((c2 b q).elim .inl fun z => .inr (cB b z)))⟩
          rw [m1, l]
          exact (tgtO_len et).symm
      | _ => exact P1.elim
/-! ### ends -/
theorem RvOk.any {r : RV} {v : V} {σ2 : L2.St} (h : RvOk F H σ A v r) (hn : isVw r = false) : RvOk F H σ2 A v r := by
  cases r with
  | vw i => cases hn
  | _ => exact h
theorem case_ret {e : Ex} {e' : Expr} {pos : Pos} (he : SE Φ ER (Wk E0) X e e') : SS Φ Wn ER E0 X (.ret e) (.Return (some e') pos) := by
  intro env F H σ pv fp D S P
  unfold exc at P
  refine ⟨_, ps_ret WE.pe, ?_⟩
  refine he env F H σ pv fp _ S (P.sp0 fun r e1 v F1 H1 fp1 A1 eo S1 st1 r1 n1 ap1 P1 => ?_)
  cases r with
  | fz d => exact P1 v σ F1 H1 fp1 A1 S1 (Step.refl.weak (fun _ q => q) fun _ q => .inl q) r1 n1 ap1
  | ow n d => exact P1 v σ F1 H1 fp1 A1 S1 (Step.refl.weak (fun _ q => q) fun _ q => .inl q) r1 n1 ap1
  | vw i =>
    unfold leave at P1
    cases q : e1[i]? with
    | none => simp only [q] at P1; exact P1.elim
    | some s =>
      simp only [q] at P1
      cases s with
      | un => exact P1.elim
      | fz d => exact P1.elim
      | pn n d => exact P1.elim
      | ow n d =>
        dsimp only at P1
        obtain ⟨w', hw, ho⟩ := S1.own q
        rw [show σ[i]? = some (some v) from r1] at hw
        cases hw
        refine P1 v σ F1 H1 _ (fp1 i) (S1.move q) (Step.refl.weak (fun _ q => q) fun b z => .inl (.inl ?_)) ho (fun b z => S1.nof b ⟨i, z⟩) (fun b x y => ?_)
        · rcases z with z | z
          · exact drop1_cov z
          · exact ⟨i, z⟩
        · obtain ⟨j, ne, y⟩ := y
          exact ne (S1.dis j i b y x)
theorem case_raise {c : Nat} {x : Str} {e : Ex} {e' : Expr} {p cp pos : Pos} (T : Tab C P w K mg base Φ ER k) (cx : CxOk P w K mg base k N sc (Wk E0) X) (hx : C.exns[c]? = some x) (hg : Mi.gl sc x = true) (hb : badE e' = false) (he : SE Φ ER (Wk E0) X e e') :
    SS Φ Wn ER E0 X (.raise c [e]) (.Raise (some (.Call (.Name x p) [e'] [] cp)) none pos) := by
  intro env F H σ pv fp D S P
  unfold exc at P
  refine ⟨_, ps_raise cx.calm cx.tk (T.exn c x hx X (Wk E0) N sc cx hg e' p cp hb), ?_⟩
  unfold evs at P
  rw [Rs.bind_assoc] at P
  refine he env F H σ pv fp _ S (P.sp0 fun r e1 v F1 H1 fp1 A1 eo S1 st1 r1 n1 ap1 P1 => ?_)
  unfold evs at P1
  simp only [Rs.bind_ok, keeps] at P1
  cases ek : keep e1 r with
  | none => rw [ek] at P1; exact P1.elim
  | some q =>
    obtain ⟨d, e2⟩ := q
    rw [ek] at P1
    simp only [Option.bind_some, Option.map_some] at P1
    obtain ⟨F3, fp3, S3, st3, hd⟩ := keep_ok S1 r1 n1 ap1 ek
    split at P1
    case isFalse => exact P1.elim
    rename_i hea
    have P3 := P1.step st3
    refine ⟨F3, d, S3.sub, hd, hea, fun cls dd F2 H2 st sub h => P3 cls dd F2 H2 (st.weak (fun _ q => q.elim) fun _ q => q.elim) sub h⟩
/-! ### rows -/
theorem case_seq {a b : Sm} {s : Stmt} {r : List Stmt} (ha : SS Φ Wn ER E0 X a s) (hb : SB Φ Wn ER E0 X b r) : SB Φ Wn ER E0 X (.seq a b) (s :: r) := by
  intro env F H σ pv fp D S P
  unfold exc at P
  refine ⟨_, pss_cons WS.ps WB.pss, ?_⟩
  refine ha env F H σ pv fp { D with nx := fun σ H => WB X r D σ H } S ?_
  cases e : exc Φ Wn a env with
  | no => rw [e] at P; exact P
  | ex x => rw [e] at P; exact P
  | ok f e1 =>
    rw [e] at P
    cases f with
    | nx => exact fun σ' F' H' fp' S' st => hb e1 F' H' σ' pv fp' D S' (P.step st)
    | brk => exact P
    | cnt => exact P
    | ret q => exact P
end
end Mi
end
section
set_option Elab.async false
set_option linter.all false
set_option maxRecDepth 100000
namespace Mi
open PySem L2
section
variable {Φ : Calls} {Wn : Nat} {ER : Exn → Value → Option Addr → Hp → Hp → Prop} {E0 : XK} {X : Cx} {P : Program} {w : World} {K : Frag} {mg : Str → Option Value} {base : Heap} {k : Nat} {N : List Str} {sc : Scope} {C : Cfg}
theorem do_set {i : Nat} {e : Ex} {e' : Expr} {x : Str} {px pos : Pos} (T : Tab C P w K mg base Φ ER k) (c : CxOk P w K mg base k N sc (Wk E0) X) (L : Locs N sc X) (hi : N[i]? = some x) (hx : loc sc x = true) (hs : setOk sc x px e' = true) (hm : mE C N sc e e' = true) :
    SS Φ Wn ER E0 X (.set i e) (.Assign [.Name x px] e' pos) := by
  have hB : ∀ {scope : Scope} {own : List (Str × Nat)}, blkC N sc scope own = true → BlkOk X.N X.env.scope scope own := fun h => by rw [c.eN, c.esc]; exact blkOk_by h
  have hcl : ∀ {y : Str}, sc.names.lookup y = some .cell → X.env.scope.names.lookup y = some .cell := fun h => by rw [c.esc]; exact h
  have hm0 := hm
  cases e' with
  | ListComp elt gs scope pv =>
    unfold mE at hm; split at hm <;> first | contradiction | (cases hm; done) | (unfold slotOk at hm; cases hm; done) | skip
    rename_i he; cases he
    simp only [Bool.and_eq_true] at hm
    obtain ⟨⟨⟨⟨⟨h1, h2⟩, h3⟩, h4⟩, h5⟩, h6⟩ := hm
    have hblk := hB h1
    rcases Bool.or_eq_true _ _ ▸ hs with hs | hs
    case inr => exact case_set L hi hx (cell_sw (hcl (of_decide_eq_true hs)) rfl) (sE T _ c hm0)
    exact case_setL L c hi hs hblk (mI_good h4) (read_lcp c.calm (by rw [c.eN]; exact c.nd) hblk h2 h3 (mI_good h4) (sI T _ c h4) (fun _ _ _ _ _ => blk_locs c) (fun _ _ _ _ _ => sC T _ (blk_cx c) h5) (fun _ _ _ _ _ => sE T _ (blk_cx c) h6))
  | DictComp kx vx gs scope pv =>
    unfold mE at hm; split at hm <;> first | contradiction | (cases hm; done) | (unfold slotOk at hm; cases hm; done) | skip
    rename_i he; cases he
    simp only [Bool.and_eq_true] at hm
    obtain ⟨⟨⟨⟨⟨⟨h1, h2⟩, h3⟩, h4⟩, h5⟩, h6⟩, h7⟩ := hm
    have hblk := hB h1
    rcases Bool.or_eq_true _ _ ▸ hs with hs | hs
    case inr => exact case_set L hi hx (cell_sw (hcl (of_decide_eq_true hs)) rfl) (sE T _ c hm0)
    exact case_setD L c hi hs hblk (mI_good h4) (read_dcp c.calm (by rw [c.eN]; exact c.nd) hblk h2 h3 (mI_good h4) (sI T _ c h4) (fun _ _ _ _ _ => blk_locs c) (fun _ _ _ _ _ => sC T _ (blk_cx c) h5) (fun _ _ _ _ _ => sE T _ (blk_cx c) h6) (fun _ _ _ _ _ => sE T _ (blk_cx c) h7))
  | SetComp => cases hs
  | _ => exact case_set L hi hx rfl (sE T e c hm)
end
section
variable {Φ : Calls} {Wn : Nat} {ER : Exn → Value → Option Addr → Hp → Hp → Prop} {E0 : XK} {X : Cx} {P : Program} {w : World} {K : Frag} {mg : Str → Option Value} {base : Heap} {k : Nat} {N : List Str} {sc : Scope} {C : Cfg}
theorem do_raise {n : Nat} {x : Str} {es : List Ex} {es' : List Expr} {p cp pos : Pos} (T : Tab C P w K mg base Φ ER k) (c : CxOk P w K mg base k N sc (Wk E0) X) (hx : C.exns[n]? = some x) (hg : Mi.gl sc x = true) (hm : mEs C N sc es es' = true) (h1 : es'.length = 1) :
    SS Φ Wn ER E0 X (.raise n es) (.Raise (some (.Call (.Name x p) es' [] cp)) none pos) := by
  match es', h1 with
  | [e'], _ =>
    match es, hm with
    | [], hm => unfold mEs at hm; cases hm
    | [e], hm =>
      obtain ⟨x', e1, g⟩ := mEs_one hm
      cases e1
      exact case_raise T c hx hg (mE_good g) (sE T e c g)
    | _ :: _ :: _, hm => unfold mEs at hm; rw [Bool.and_eq_true] at hm; have := hm.2; unfold mEs at this; cases this
end
set_option maxHeartbeats 2000000 in
mutual
theorem sS {Φ : Calls} {Wn : Nat} {ER : Exn → Value → Option Addr → Hp → Hp → Prop} {P : Program} {w : World} {K : Frag} {mg : Str → Option Value} {base : Heap} {k : Nat} {N : List Str} {C : Cfg} (T : Tab C P w K mg base Φ ER k) {X : Cx} {E0 : XK} {sc : Scope} (c : CxOk P w K mg base k N sc (Wk E0) X) (L : Locs N sc X) (hp : PassesOwn (model X.prog X.w) X.A X.env X.xe) :
    ∀ (s : Sm) {st : Stmt}, mS C N sc s st = true → SS Φ Wn ER E0 X s st
  | .pass, st, h => by
    unfold mS at h; split at h <;> first | contradiction | (cases h; done) | skip
    exact case_pass
  | .brk, st, h => by
    unfold mS at h; split at h <;> first | contradiction | (cases h; done) | skip
    exact case_brk
  | .cnt, st, h => by
    unfold mS at h; split at h <;> first | contradiction | (cases h; done) | skip
    exact case_cnt
  | .set i e, st, h => by
    unfold mS at h; split at h <;> first | contradiction | (cases h; done) | skip
    rename_i he; cases he
    simp only [Bool.and_eq_true] at h
    obtain ⟨⟨⟨h1, h2⟩, h3⟩, h4⟩ := h
    exact do_set T c L (of_decide_eq_true h1) h2 h3 h4
  | .unp t e, st, h => by
    unfold mS at h; split at h <;> first | contradiction | (cases h; done) | skip
    rename_i t' e' pos he; cases he
    simp only [Bool.and_eq_true] at h
    obtain ⟨⟨⟨h1, h2⟩, h3⟩, h4⟩ := h
    cases t' with
    | Tuple es j tp =>
      cases t with
      | nm i => simp [mTg] at h3
      | tp ts => exact case_unp L h2 (by rw [mTg] at h3; exact h3) (sE T e c h4)
    | _ => cases h1
  | .sidx i k e, st, h => by
    unfold mS at h; split at h <;> first | contradiction | (cases h; done) | skip
    rename_i he; cases he
    simp only [Bool.and_eq_true] at h
    obtain ⟨⟨⟨⟨h1, h2⟩, h3⟩, h4⟩, h5⟩ := h
    exact case_sidx c h3 h1 (mE_good h4) (sE T k c h4) (sE T e c h5)
  | .expr e, st, h => by
    unfold mS at h; split at h <;> first | contradiction | (cases h; done) | skip
    rename_i he; cases he
    simp only [Bool.and_eq_true] at h
    exact case_expr h.1 (sE T e c h.2)
  | .ret e, st, h => by
    unfold mS at h; split at h <;> first | contradiction | (cases h; done) | skip
    rename_i he; cases he
    exact case_ret (sE T e c h)
  | .retn, st, h => by
    unfold mS at h; split at h <;> first | contradiction | (cases h; done) | skip
    exact case_retn
  | .ifs d a b, st, h => by
    unfold mS at h; split at h <;> first | contradiction | (cases h; done) | skip
    rename_i he; cases he
    simp only [Bool.and_eq_true] at h
    obtain ⟨⟨h1, h2⟩, h3⟩ := h
    exact case_ifs (sT T d c h1) (sB T c L hp a h2) (sB T c L hp b h3)
  | .for_ t src b, st, h => by
    unfold mS at h; split at h <;> first | contradiction | (cases h; done) | skip
    rename_i he; cases he
    simp only [Bool.and_eq_true] at h
    obtain ⟨⟨h1, h2⟩, h3⟩ := h
    exact case_for L hp (mI_good h2) h1 (sI T src c h2) (sB T c L hp b h3)
  | .whl d b, st, h => by
    unfold mS at h; split at h <;> first | contradiction | (cases h; done) | skip
    rename_i he; cases he
    simp only [Bool.and_eq_true] at h
    exact case_while hp (sT T d c h.1) (sB T c L hp b h.2)
  | .raise n es, st, h => by
    unfold mS at h; split at h <;> first | contradiction | (cases h; done) | skip
    rename_i he; cases he
    simp only [Bool.and_eq_true] at h
    obtain ⟨⟨⟨h1, h2⟩, h3⟩, h4⟩ := h
    exact do_raise T c (of_decide_eq_true h1) h2 h3 (by simpa using h4)
  | .skip, st, h => by unfold mS at h; first | (cases h; done) | (split at h <;> first | contradiction | (cases h; done))
  | .seq _ _, st, h => by unfold mS at h; first | (cases h; done) | (split at h <;> first | contradiction | (cases h; done))
  | .aug _ _ _, st, h => by unfold mS at h; first | (cases h; done) | (split at h <;> first | contradiction | (cases h; done))
  | .par _ _, st, h => by unfold mS at h; first | (cases h; done) | (split at h <;> first | contradiction | (cases h; done))
termination_by structural s => s
theorem sB {Φ : Calls} {Wn : Nat} {ER : Exn → Value → Option Addr → Hp → Hp → Prop} {P : Program} {w : World} {K : Frag} {mg : Str → Option Value} {base : Heap} {k : Nat} {N : List Str} {C : Cfg} (T : Tab C P w K mg base Φ ER k) {X : Cx} {E0 : XK} {sc : Scope} (c : CxOk P w K mg base k N sc (Wk E0) X) (L : Locs N sc X) (hp : PassesOwn (model X.prog X.w) X.A X.env X.xe) :
    ∀ (s : Sm) {st : List Stmt}, mB C N sc s st = true → SB Φ Wn ER E0 X s st
  | .skip, [], h => case_skip
  | .skip, _ :: _, h => by unfold mB at h; cases h
  | .seq a b, [], h => by unfold mB at h; cases h
  | .seq a b, s :: r, h => by
    unfold mB at h
    rw [Bool.and_eq_true] at h
    exact case_seq (sS T c L hp a h.1) (sB T c L hp b h.2)
  | .pass, st, h => by unfold mB at h; first | (cases h; done) | (split at h <;> first | contradiction | (cases h; done))
  | .brk, st, h => by unfold mB at h; first | (cases h; done) | (split at h <;> first | contradiction | (cases h; done))
  | .cnt, st, h => by unfold mB at h; first | (cases h; done) | (split at h <;> first | contradiction | (cases h; done))
  | .set _ _, st, h => by unfold mB at h; first | (cases h; done) | (split at h <;> first | contradiction | (cases h; done))
  | .unp _ _, st, h => by unfold mB at h; first | (cases h; done) | (split at h <;> first | contradiction | (cases h; done))
  | .aug _ _ _, st, h => by unfold mB at h; first | (cases h; done) | (split at h <;> first | contradiction | (cases h; done))
  | .par _ _, st, h => by unfold mB at h; first | (cases h; done) | (split at h <;> first | contradiction | (cases h; done))
  | .sidx _ _ _, st, h => by unfold mB at h; first | (cases h; done) | (split at h <;> first | contradiction | (cases h; done))
  | .expr _, st, h => by unfold mB at h; first | (cases h; done) | (split at h <;> first | contradiction | (cases h; done))
  | .ret _, st, h => by unfold mB at h; first | (cases h; done) | (split at h <;> first | contradiction | (cases h; done))
  | .retn, st, h => by unfold mB at h; first | (cases h; done) | (split at h <;> first | contradiction | (cases h; done))
  | .ifs _ _ _, st, h => by unfold mB at h; first | (cases h; done) | (split at h <;> first | contradiction | (cases h; done))
  | .for_ _ _ _, st, h => by unfold mB at h; first | (cases h; done) | (split at h <;> first | contradiction | (cases h; done))
  | .whl _ _, st, h => by unfold mB at h; first | (cases h; done) | (split at h <;> first | contradiction | (cases h; done))
  | .raise _ _, st, h => by unfold mB at h; first | (cases h; done) | (split at h <;> first | contradiction | (cases h; done))
termination_by structural s => s
end
end Mi
end
section
set_option Elab.async false
set_option linter.all false
set_option maxRecDepth 100000
namespace Mi
open PySem L2
/-! ### a def -/
structure Fd where
  names : List Str
  np : Nat
  body : Sm
def Fd.start (d : Fd) (ss : List SV) : Env := ss ++ List.replicate (d.names.length - ss.length) .un
/-- an argument behind the call: frozen data as it was, an object that was lent as it is now -/
def argOut (env : Env) (i : Nat) : SV → Option SV
  | .fz d => some (.fz d)
  | .pn _ _ => match env[i]? with
    | some (.pn m e) => some (.pn m e)
    | _ => none
  | _ => none
def argOuts (env : Env) : Nat → List SV → Option (List SV)
  | _, [] => some []
  | i, s :: r => (argOut env i s).bind fun t => (argOuts env (i + 1) r).map (t :: ·)
def Fd.run (Φ : Calls) (W : Nat) (d : Fd) (ss : List SV) : Ans :=
  if ss.length = d.np then match exc Φ W d.body (d.start ss) with
    | .no => .no
    | .ex x => .ex x
    | .ok f env => match f with
      | .nx => (match argOuts env 0 ss with | some ts => .ok (.fz .non) ts | none => .no)
      | .ret r => (match argOuts env 0 ss with | some ts => .ok r ts | none => .no)
      | _ => .no
  else .no
section
variable {F H F' H' : Hp} {σ : L2.St} {env env' : Env} {fp : Nat → Addr → Prop} {pv : Nat → Option V}
theorem argOuts_get : ∀ {ss ts : List SV} {k : Nat}, argOuts env k ss = some ts → ∀ {i : Nat} {t : SV}, ts[i]? = some t → ∃ s, ss[i]? = some s ∧ argOut env (k + i) s = some t
  | [], ts, k, h, i, t, e => by cases h; simp at e
  | s :: r, ts, k, h, i, t, e => by
    unfold argOuts at h
    cases e1 : argOut env k s with
    | none => simp [e1] at h
    | some u =>
      cases e2 : argOuts env (k + 1) r with
      | none => simp [e1, e2] at h
      | some us =>
        simp [e1, e2] at h
        subst h
        cases i with
        | zero => simp at e; subst e; exact ⟨s, rfl, e1⟩
        | succ i =>
          obtain ⟨s', h1, h2⟩ := argOuts_get e2 (i := i) (t := t) (by simpa using e)
          exact ⟨s', by simpa using h1, by rw [← h2]; congr 1; omega⟩
theorem start_get {d : Fd} {ss : List SV} {i : Nat} {s : SV} (h : (d.start ss)[i]? = some s) : (∃ s', ss[i]? = some s' ∧ s = s') ∨ (ss.length ≤ i ∧ s = .un) := by
  unfold Fd.start at h
  by_cases hi : i < ss.length
  · rw [List.getElem?_append_left hi] at h
    exact .inl ⟨s, h, rfl⟩
  · rw [List.getElem?_append_right (by omega), List.getElem?_replicate] at h
    split at h
    · cases h; exact .inr ⟨by omega, rfl⟩
    · cases h
end
section
variable {Φ : Calls} {Wn : Nat} {ER : Exn → Value → Option Addr → Hp → Hp → Prop} {E0 : XK} {X : Cx} {P : Program} {w : World} {K : Frag} {mg : Str → Option Value} {base : Heap} {k : Nat} {sc : Scope} {C : Cfg}
variable {F H F' H' : Hp} {σ : L2.St} {env env' : Env} {fp : Nat → Addr → Prop} {pv : Nat → Option V}
/-- the arguments behind a call, from the frame at its end -/
theorem behind {d : Fd} {ss ts : List SV} {vs : List V} {F1 H1 : Hp} {fp1 : Nat → Addr → Prop} {σ1 : L2.St} (S : Stt F1 H1 σ1 env fp1 (fun i => vs[i]?)) (sub : Sub F F1) (ho : argOuts env 0 ss = some ts)
    (h0 : ∀ (i : Nat) s v, ss[i]? = some s → vs[i]? = some v → SlotOk F H (fp i) (some v) s) : ∀ (i : Nat) s v, ts[i]? = some s → vs[i]? = some v → SlotOk F1 H1 (fp1 i) (some v) s := by
  intro i s v e ev
  obtain ⟨s0, e0, e1⟩ := argOuts_get ho e
  rw [Nat.zero_add] at e1
  cases s0 with
  | un => cases e1
  | ow n d => cases e1
  | fz d =>
    cases e1
    obtain ⟨v', hv, ha⟩ := h0 i _ v e0 ev
    exact ⟨v', hv, At.mono sub ha⟩
  | pn n d =>
    unfold argOut at e1
    dsimp only at e1
    cases q : env[i]? with
    | none => rw [q] at e1; cases e1
    | some t =>
      rw [q] at e1
      cases t with
      | pn m e' =>
        cases e1
        have hp := S.pin i m e' q
        have hs := S.sl i _ q
        rw [hp, ev] at hs
        exact hs
      | _ => cases e1
theorem run_body {d : Fd} {N ps : List Str} {body : List Stmt} {vs : List V} {Q : VK} {E : XK} (T : Tab C P w K mg base Φ ER k) (c : CxOk P w K mg base k d.names sc (Wk E) X) (L : Locs d.names sc X) (hp : PassesOwn (model X.prog X.w) X.A X.env X.xe)
    (hb : mB C d.names sc d.body body = true) (hn : d.np ≤ d.names.length) (h : SpOf ER d.np (d.run Φ Wn) vs H Q E) : ∃ t, PSs X body t ∧ t { nx := fun _ H' => Q .non H', rt := Q } (start d.names vs) H := by
  obtain ⟨F, ss, fp, sub, lv, ls, hs, hl, dis, nof, ans⟩ := h
  have S0 : Stt F H (start d.names vs) (d.start ss) fp (fun i => vs[i]?) := by
    refine ⟨sub, ?_, fun i s e => ?_, dis, nof, fun i n x e => ?_⟩
    · unfold L2.start Fd.start
      simp only [List.length_append, List.length_map, List.length_replicate]
      omega
    · rcases start_get e with ⟨s', e', rfl⟩ | ⟨_, rfl⟩
      · have hi : i < vs.length := by have := (List.getElem?_eq_some_iff.1 e').1; omega
        have hv : vs[i]? = some vs[i] := List.getElem?_eq_getElem hi
        have z := hs i s _ e' hv
        have e2 : (start d.names vs)[i]? = some (some vs[i]) := by
          unfold L2.start
          rw [List.getElem?_append_left (by rw [List.length_map]; exact hi), List.getElem?_map, hv]; rfl
        rw [e2]; exact z
      · trivial
    · rcases start_get e with ⟨s', e', rfl⟩ | ⟨_, z⟩
      · have hi : i < vs.length := by have := (List.getElem?_eq_some_iff.1 e').1; omega
        have hv : vs[i]? = some vs[i] := List.getElem?_eq_getElem hi
        show (start d.names vs)[i]? = some vs[i]?
        unfold L2.start
        rw [List.getElem?_append_left (by rw [List.length_map]; exact hi), List.getElem?_map, hv]; rfl
      · cases z
  refine sB (Wn := Wn) T c L hp d.body hb (d.start ss) F H (start d.names vs) (fun i => vs[i]?) fp _ S0 ?_
  unfold Fd.run at ans
  rw [if_pos ls] at ans
  have fin : ∀ {env1 : Env} {ts : List SV} {r : RV} {v : V} {σ1 : L2.St} {F1 H1 : Hp} {fp1 : Nat → Addr → Prop} {A : Addr → Prop}, argOuts env1 0 ss = some ts → AnsOk ER vs fp F H Q E (.ok r ts) → Stt F1 H1 σ1 env1 fp1 (fun i => vs[i]?) →
      Step (cov fp) F H (or2 (cov fp1) A) F1 H1 → RvOk F1 H1 [] A v r → Nof F1 H1 A → Apart A (cov fp1) → Q v H1 := by
    intro env1 ts r v σ1 F1 H1 fp1 A ho an S1 st r1 n1 ap
    exact an v F1 H1 fp1 A st S1.sub r1 (behind (d := d) S1 st.sub ho hs) S1.dis (fun b z => z.elim (S1.nof b) (n1 b)) ap
  cases eo : exc Φ Wn d.body (d.start ss) with
  | no => rw [eo] at ans; exact ans
  | ex x => rw [eo] at ans; exact ans
  | ok f env1 =>
    rw [eo] at ans
    cases f with
    | brk => exact (ans : False).elim
    | cnt => exact (ans : False).elim
    | nx =>
      dsimp only at ans
      cases ho : argOuts env1 0 ss with
      | none => rw [ho] at ans; exact (ans : False).elim
      | some ts =>
        rw [ho] at ans
        intro σ1 F1 H1 fp1 S1 st
        exact fin (A := none1) (v := .non) (r := .fz .non) ho ans S1 (st.weak (fun _ q => q) fun b q => .inl (or2_none.1 q)) .non (fun _ z => z.elim) (fun _ z => z.elim)
    | ret r =>
      dsimp only at ans
      cases ho : argOuts env1 0 ss with
      | none => rw [ho] at ans; exact (ans : False).elim
      | some ts =>
        rw [ho] at ans
        intro v σ1 F1 H1 fp1 A S1 st r1 n1 ap
        exact fin ho ans S1 st r1 n1 ap
end
section
variable {Φ : Calls} {Wn : Nat} {ER : Exn → Value → Option Addr → Hp → Hp → Prop} {P : Program} {w : World} {K : Frag} {mg : Str → Option Value} {base : Heap} {k : Nat} {C : Cfg}
/-- a def keeps its plain form's contract -/
theorem fd_ok {d : Fd} {ps : List Str} {x qual : Str} {st : Stmt} {f : Addr} {fd : FuncData} (Fn : Fun K x qual st f fd) (S : FnScope d.names ps (defScope st)) (T : Tab C P w K mg base Φ ER k) (hn : ps.length = d.np) (hb : mB C d.names (defScope st) d.body (defBody st) = true) :
    FnOk P w K mg base (L2.CX P w) (k + 1) f fd ps (SpOf ER ps.length (d.run Φ Wn)) := by
  refine Fn.okX S (fun vs H Q E h => ?_) (fun cdv A outer s H vs Q E hr h => ?_)
  · obtain ⟨_, _, _, _, l, _⟩ := h
    exact l
  · rw [hn] at h
    have hp : d.np ≤ d.names.length := by
      have := congrArg List.length S.pre
      rw [List.length_take] at this
      omega
    refine run_body (Wn := Wn) (N := d.names) (ps := ps) T ⟨rfl, rfl, rfl, rfl, rfl, rfl, S.nd, rfl, rfl, hr, takes_of rfl rfl rfl rfl⟩ ⟨rfl, S.nd, rfl, fun x hx => ⟨?_, .inl rfl⟩⟩ (passes_of rfl) hb hp h
    unfold loc at hx
    show (defScope st).names.lookup x = some .local ∨ (defScope st).names.lookup x = some .cell
    split at hx <;> first | (left; assumption) | (right; assumption) | cases hx
end
end Mi
end
section
set_option Elab.async false
set_option linter.all false
set_option maxRecDepth 100000
namespace Mi
open PySem L2
/-! ### a table of defs -/
inductive Df where
  | ir (d : Fd)
  | hand (g : Calls → List SV → Ans)
def Df.run (Φ : Calls) (W : Nat) : Df → List SV → Ans
  | .ir d => d.run Φ W
  | .hand g => g Φ
def runs (W : Nat) (ds : List Df) : Nat → Calls
  | 0 => fun _ _ => .no
  | n + 1 => fun f ss => match ds[f]? with
    | some d => d.run (runs W ds n) W ss
    | none => .no
section
variable {W : Nat} {ds : List Df} {ER : Exn → Value → Option Addr → Hp → Hp → Prop} {P : Program} {w : World} {K : Frag} {mg : Str → Option Value} {base : Heap} {C : Cfg}
/-- what the top says of a def, and that it keeps its plain form's contract if the others do -/
structure Ent (W : Nat) (C : Cfg) (ER : Exn → Value → Option Addr → Hp → Hp → Prop) (P : Program) (w : World) (K : Frag) (mg : Str → Option Value) (base : Heap) (x : Str) (d : Df) : Prop where
  ex : ∃ (a : Addr) (fd : FuncData) (ps : List Str), mg x = some (.ref a) ∧ PySem.W.keepIn K (.ref a) = true ∧ Binds K fd ps [] ∧ (∀ Φ ss, ss.length ≠ ps.length → d.run Φ W ss = .no) ∧
    ∀ n Φ, Tab C P w K mg base Φ ER n → FnOk P w K mg base (CX P w) (n + 1) a fd ps (SpOf ER ps.length (d.run Φ W))
/-- an own class of exceptions -/
def ExnOk (ER : Exn → Value → Option Addr → Hp → Hp → Prop) (P : Program) (w : World) (K : Frag) (mg : Str → Option Value) (base : Heap) (c : Nat) (x : Str) : Prop :=
  ∀ (k : Nat) (X : Cx) (E0 : WX) (N : List Str) (sc : Scope), CxOk P w K mg base k N sc E0 X → gl sc x = true → ∀ (e' : Expr) (p pos : Pos), badE e' = false → PMk X (.Call (.Name x p) [e'] [] pos) (tRaise ER c (WE X e'))
theorem table (hl : ∀ (f : Nat) x, C.fns[f]? = some x → ∃ d, ds[f]? = some d ∧ Ent W C ER P w K mg base x d) (hx : ∀ (c : Nat) x, C.exns[c]? = some x → ExnOk ER P w K mg base c x)
    (hg : ∀ x d, (x, d) ∈ C.globs → d.flat = true ∧ ∃ u, mg x = some u ∧ RelV d.toV u)
    (hb : ∀ x, x ∈ (["len", "int", "abs", "all", "any", "sum", "tuple", "list", "max", "min", "reversed", "isinstance", "range", "enumerate", "bool", "str", "dict"] : List Str) → mg x = none) :
    ∀ n, Tab C P w K mg base (runs W ds n) ER n
  | 0 => by
    refine ⟨fun f x e => ?_, hg, fun c x e => hx c x e 0, hb⟩
    obtain ⟨d, _, h⟩ := hl f x e
    obtain ⟨a, fd, ps, h1, h2, h3, _, _⟩ := h.ex
    refine ⟨a, fd, ps, h1, h2, h3, ⟨fun vs H Q E h => ?_, fun A outer s H args us vs Q E hr e0 hb r h => ?_⟩, fun _ _ => rfl⟩
    · obtain ⟨_, _, _, _, l, _⟩ := h; exact l
    · obtain ⟨_, _, _, _, _, _, _, _, _, _, z⟩ := h
      exact (z : False).elim
  | n + 1 => by
    have ih := table hl hx hg hb n
    refine ⟨fun f x e => ?_, hg, fun c x e => hx c x e (n + 1), hb⟩
    obtain ⟨d, hd, h⟩ := hl f x e
    obtain ⟨a, fd, ps, h1, h2, h3, h4, h5⟩ := h.ex
    have er : runs W ds (n + 1) f = d.run (runs W ds n) W := by
      funext ss
      show (match ds[f]? with | some d => d.run (runs W ds n) W ss | none => .no) = _
      rw [hd]
    refine ⟨a, fd, ps, h1, h2, h3, ?_, fun ss hs => ?_⟩
    · rw [er]; exact h5 n _ ih
    · rw [er]; exact h4 _ ss hs
/-- a def told by its plain form -/
theorem ent_of {d : Fd} {ps : List Str} {x : Str} {st : Stmt} {a : Addr} {fd : FuncData} (Fn : Fun K x x st a fd) (S : FnScope d.names ps (defScope st)) (hm : mg x = some (.ref a)) (hb : Binds K fd ps []) (hn : ps.length = d.np) (hB : mB C d.names (defScope st) d.body (defBody st) = true) :
    Ent W C ER P w K mg base x (.ir d) :=
  ⟨a, fd, ps, hm, Fn.kp, hb, fun Φ ss hs => by
    show Fd.run Φ W d ss = .no
    unfold Fd.run
    rw [if_neg (by rw [← hn]; exact hs)], fun n Φ T => fd_ok Fn S T hn hB⟩
end
end Mi
end
section
set_option Elab.async false
set_option linter.all false
set_option maxRecDepth 100000
set_option maxHeartbeats 2000000
/-! an own exception over ValueError: super().__init__(f'..{x!r}'), self.x = x -/
namespace Mi
namespace Ox
open PySem PySem.W PySem.Calls PyProof.Rows PySem.HandSPX
def iA (at' : Str) (p1 p2 : Pos) : Arguments := { posonlyargs := [], args := [{ arg := "self", annotation := none, pos := p1 }, { arg := at', annotation := none, pos := p2 }], vararg := none, kwonlyargs := [], kw_defaults := [], kwarg := none, defaults := [] }
structure Ps where
  (a1 a2 s0 s1 s2 c1 f1 n1 j1 s3 s4 q1 q2 q3 q4 : Pos)
def iB (at' pre : Str) (p : Ps) : List Stmt :=
  [.Expr (.Call (.Attribute (.Call (.Name "super" p.s0) [] [] p.s1) "__init__" p.s2) [.JoinedStr [.Constant (.str pre) 0 p.c1, .FormattedValue (.Name at' p.n1) 114 none p.f1] p.j1] [] p.s3) p.s4,
   .Assign [.Attribute (.Name "self" p.q1) at' p.q2] (.Name at' p.q3) p.q4]
def iS (at' : Str) : Scope := { kind := .function, names := [("self", .local), (at', .local), ("__class__", .free), ("super", .globalImplicit)], isGenerator := false, isCoroutine := false, more := [] }
structure Txt (prog : Program) (K : Frag) (mg : Str → Option Value) (n at' pre qual : Str) (C fI cc cda : Addr) : Prop where
  gC : mg n = some (.ref C)
  cls : ∃ nm q N bs bm sn sub ab col dd k0 k1 k2 k3 k5, K.lookup C = some (excClassObj nm q C N bs bm true sn sub ab col dd k0 k1 k2 k3 k5 "ValueError.__new__") ∧ refsVE bm = true
  sup : ks_superIn K C C "__init__" = some (some (.builtin "ValueError.__init__"))
  sa : findIn K (.ref C) "__setattr__" = some (some (.builtin "object.__setattr__"))
  ga : findIn K (.ref C) "__getattribute__" = some (some (.builtin "BaseException.__getattribute__"))
  gg : findIn K (.ref C) "__getattr__" = some none
  noN : findIn K (.ref C) at' = some none
  iC : findIn K (.ref C) "__init__" = some (some (.ref fI))
  tC : typeIn K (.ref fI) = some (.type "function")
  kC : keepIn K (.ref C) = true
  exC : subIn K (.ref C) (.type "BaseException") = some true
  vaC : subIn K (.ref C) (.type "ValueError") = some true
  seC : mroIn K C (.ref C) = some true
  tyC : typeIn K (.ref C) = some (.type "type")
  opC : ∀ (M : Model) (h : Heap), K.In h → Looks M h (opaqueClassAbove (.ref C)) none
  fn : ∃ (oc : Value) (od : Option Addr) (doc pm : Value) (an : Option Addr) (ct : Value) (osl : Array (Option Value)) (p : Ps),
    K.lookup fI = some ⟨oc, od, .func (ksFn "__init__" qual (iA at' p.a1 p.a2) (iB at' pre p) (iS at') .none .none doc pm an (.ref cda) ct cc), osl⟩ ∧ codeIn K (.ref cda) qual = true ∧
    (∀ u v : Value, bindArgs (ksFn "__init__" qual (iA at' p.a1 p.a2) (iB at' pre p) (iS at') .none .none doc pm an (.ref cda) ct cc) ⟨[u, v], []⟩ = pure [(("self" : Str), u), (at', v)]) ∧
    (∀ env : PySem.Env, ∃ pl : Sem Bool, eval (.Call (.Attribute (.Call (.Name "super" p.s0) [] [] p.s1) "__init__" p.s2) [.JoinedStr [.Constant (.str pre) 0 p.c1, .FormattedValue (.Name at' p.n1) 114 none p.f1] p.j1] [] p.s3) env = (do
      let ov ← attributeBase (.Call (.Name "super" p.s0) [] [] p.s1) "__init__" env (eval (.Call (.Name "super" p.s0) [] [] p.s1) env)
      standAt p.s2.atName
      let (f, first) ← holding [ov] (getMethod ov "__init__" pl)
      callWith p.s3 f first (backTo p.s3 (starEach [.JoinedStr [.Constant (.str pre) 0 p.c1, .FormattedValue (.Name at' p.n1) 114 none p.f1] p.j1] env)) []))
  code : ∃ ccl cdd vs ccs file tf, K.lookup cda = some ⟨ccl, cdd, .fields vs, ccs⟩ ∧ vs[2]? = some (.str file tf) ∧ ((prog.main.file : Str) == file) = true
  cell : ∃ cl cld csl, K.lookup cc = some ⟨cl, cld, .cell (some (.ref C)), csl⟩
  top : (prog.main.scope.names.lookup ("super" : Str)).isSome = false
  gs : mg "super" = none
  nsup : (("super" : Str) == at') = false
  ncls : (("__class__" : Str) == at') = false
  ats : (at' == ("__debug__" : Str)) = false ∧ at' ≠ ("self" : Str) ∧ pre.length ≤ 1000
/-- what may be told: its text is short -/
def Told (v : Value) : Prop := ∃ y t, v = .str y t ∧ (reprText y).length ≤ 100000
structure InitEnd (h h' : Heap) (x C dx t1 : Addr) (at' : Str) (v : Value) : Prop where
  keep : ∀ b o, b ≠ x → h.get? b = some o → h'.get? b = some o
  obj : h'.get? x = some { cls := .ref C, dict := some dx, data := .fields #[.ref t1, .none, .none, .none, .bool false, .none] }
  dbig : h.objs.size ≤ dx
  dne : dx ≠ x
  ns : h'.Ns1 dx (fun y => if y = at' then some v else none)
section
variable {prog : Program} {w : World} {A : Around} {E : Value → Shared → Prop} {R : Result → Shared → Prop} {s : Shared} {K : Frag} {mg mb : Str → Option Value} {n at' pre qual : Str} {C fI cc cda : Addr}
theorem call_mw {h : Heap} {g : Array GenState} {d : Drawn} {t : Nat} {os : OsState} {u x C t0 N : Addr} {nm q : Str} {bs bm : List Value} {hdct : Bool} {sn : List Str} {sub : List Value} {ab : Bool} {col : Option Bool} {dd : Option Addr} {k0 k1 k2 k3 k5 : Option Value} {rest : List Value} {Q : Value → Shared → Prop}
    (hC : h.get? C = some (excClassObj nm q C N bs bm hdct sn sub ab col dd k0 k1 k2 k3 k5 "ValueError.__new__")) (hu : h.get? u = some (kxs_mw "ValueError.__init__" x)) (he : h.get? x = some (excO C t0)) (hz : rest.length ≤ sizeLine)
    (hq : ∀ h', (∀ b o, b ≠ x → h.get? b = some o → h'.get? b = some o) → h'.get? x = some (excO C h.objs.size) → Q .none ⟨h', g, d, t, os⟩) : wpAny (model prog w) A (call (.ref u) rest) Q E ⟨h, g, d, t, os⟩ := by
  have FB := F.excBase_ValueError
  refine wpAny_call (codeAny_of_tree ?_)
  show wpAny _ A.in1 (callAny (.ref u) ⟨rest, []⟩) _ _ _
  simp only [callAny]
  refine wpAny_bind (wpAny_load hu ?_)
  simp only [kxs_mw, show (Value.type "method-wrapper" == Value.type "method" || Value.type "method-wrapper" == Value.type "builtin_function_or_method" || Value.type "method-wrapper" == Value.type "method-wrapper") = true by decide, if_true]
  refine KFB.if_so (by decide) ?_
  refine wpAny_bind (check_bound_init FB.toExcCallFacts hC he rfl ?_)
  refine wpAny_bind (wpAny_pure (wpAny_pure ?_))
  refine ⟨plainId_quiet FB.init.plain _, codeAny_builtin FB.initEntry ?_⟩
  exact exc_init_tree (cls := .ref C) (t0 := t0) (dv := none) (c2 := .none) (c3 := .none) (b4 := .bool false) he hz fun h' a b c => hq h' a b
theorem init (T : Txt prog K mg n at' pre qual C fI cc cda) {x t0 : Addr} {v : Value} (hv : Told v) (X : K.In s.heap) (G : s.heap.Ns mainGlobals mg) (B : s.heap.Ns builtinsNs mb) (hB : mb "super" = some (.type "super")) (hlim : s.heap.NoLimit)
    (hx : s.heap.get? x = some (excO C t0)) (hnx : K.lookup x = none) (hroom : A.depth < recursionLimit)
    (hq : ∀ h' tk dx t1, InitEnd s.heap h' x C dx t1 at' v → R (.ok (.ret .none)) { s with heap := h', toks := tk }) :
    codeAny (model prog w) A (.call (.ref fI) ⟨[.ref x, v], []⟩) R s := by
  obtain ⟨oc, od, doc, pm, an, ct, osl, p, ho, hcd, hbd, hev⟩ := T.fn
  obtain ⟨ccl, cdd, vs, ccs, file, tf, hcode, hvs, hfile⟩ := T.code
  obtain ⟨cl, cld, csl, hcell⟩ := T.cell
  obtain ⟨nm, q, N, bs, bm, sn, sub, ab, col, dd, k0, k1, k2, k3, k5, hC, hbm⟩ := T.cls
  have hcl : clsIn K C = some { name := nm, bases := bs, mro := .ref C :: bm, ns := N, qualname := q, hasDict := true, slotNames := sn, subclasses := sub, abstract := ab, collection := col, hasDel := false } := by unfold clsIn; rw [hC] <;> rfl
  obtain ⟨ad, as, hpre⟩ := T.ats
  have ne : (at' == ("self" : Str)) = false := by simpa using as
  have xC : x ≠ C := fun e => by rw [e, hC] at hnx; cases hnx
  refine ks_codeAny_call_defAt (fd := ksFn "__init__" qual (iA at' p.a1 p.a2) (iB at' pre p) (iS at') .none .none doc pm an (.ref cda) ct cc) (body := iB at' pre p) (binds := [("self", .ref x), (at', v)]) hroom (X _ _ ho) rfl hlim (codeRec_of X hcd) rfl ?hb ?hc ?hl (fun h₀ hns hk => ?_)
  case hb => exact BindsTo.of_eq (hbd _ _)
  case hc =>
    intro y hy
    simp only [ksFn, fnX, iS, List.mem_cons, List.not_mem_nil, or_false] at hy
    rcases hy with rfl | rfl | rfl | rfl <;> exact fun z => by cases z
  case hl =>
    intro y hy
    simp only [List.mem_cons, List.not_mem_nil, or_false] at hy
    rcases hy with rfl | rfl
    · rfl
    · show List.lookup at' [(("self" : Str), NameKind.local), (at', .local), ("__class__", .free), ("super", .globalImplicit)] = some .local
      simp [List.lookup, ne]
  -- super()
  have X₁ : K.In h₀ := X.keeps hk
  have G₁ := G.keeps hk
  generalize henv : callEnv (ksFn "__init__" qual (iA at' p.a1 p.a2) (iB at' pre p) (iS at') .none .none doc pm an (.ref cda) ct cc) s.heap.objs.size fI = env
  have esc : env.scope = iS at' := by rw [← henv]; rfl
  have eloc : env.locals = s.heap.objs.size := by rw [← henv]; rfl
  have egl : env.globals = mainGlobals := by rw [← henv]; rfl
  have ebl : env.builtins = builtinsNs := by rw [← henv]; rfl
  have efu : env.func = some fI := by rw [← henv]; rfl
  have eco : env.code = .ref cda := by rw [← henv]; rfl
  have ece : env.cells = [(("__class__" : Str), cc)] := by rw [← henv]; rfl
  have ek : env.scope.kind = .function := by rw [esc]; rfl
  have ka : ∀ y, env.kindOf y = (iS at').names.lookup y := fun y => by show env.scope.names.lookup y = _; rw [esc]
  have kself : env.kindOf "self" = some .local := by rw [ka]; rfl
  have kat : env.kindOf at' = some .local := by
    rw [ka]
    show List.lookup at' [(("self" : Str), NameKind.local), (at', .local), ("__class__", .free), ("super", .globalImplicit)] = some .local
    simp [List.lookup, ne]
  have ksup : env.kindOf "super" = some .globalImplicit := by
    rw [ka]
    show List.lookup ("super" : Str) [(("self" : Str), NameKind.local), (at', .local), ("__class__", .free), ("super", .globalImplicit)] = _
    have : (("super" : Str) == at') = false := T.nsup
    simp [List.lookup, this]
    decide
  have kcls : env.kindOf "__class__" = some .free := by
    rw [ka]
    show List.lookup ("__class__" : Str) [(("self" : Str), NameKind.local), (at', .local), ("__class__", .free), ("super", .globalImplicit)] = _
    have : (("__class__" : Str) == at') = false := T.ncls
    simp [List.lookup, this]
    decide
  obtain ⟨pl, hev⟩ := hev env
  refine ks_wpAt_execs_cons (ks_wpAt_Expr_any (ks_wpAt_MethodCall (pl := pl) ?_ hev) ?_ ?_)
  rotate_left
  · unfold interactive; simp [ek]
  · rfl
  have X₁ : K.In h₀ := X.keeps hk
  have G₁ := G.keeps hk
  have hmself : ((fun y => List.lookup y [(("self" : Str), Value.ref x), (at', v)].reverse) "self") = some (.ref x) := by
    have : (("self" : Str) == at') = false := by simpa using fun e => as e.symm
    simp [List.lookup, this]
  have hmat : ((fun y => List.lookup y [(("self" : Str), Value.ref x), (at', v)].reverse) at') = some v := by simp [List.lookup]
  have hx₁ := hk _ _ hx
  refine ks_wpAt_super_base ksup kcls rfl efu (X₁ _ _ ho) rfl rfl eco (X₁ _ _ hcode) rfl hvs hfile T.top ?_
  refine ks_loadName_global ek ksup (loadGlobal_builtin (env := env) (mg := mg) (mb := mb) (by rw [egl]; exact G₁) T.gs (by rw [ebl]; exact B.keeps hk) hB ⟨rfl, ?_⟩)
  refine wpAny_loadName_free ek kcls (by rw [ece]; rfl) ⟨_, X₁ _ _ hcell, rfl⟩ ?_
  refine wpAny_loadName_local ek kself (by rw [eloc]; exact hns) hmself ?_
  have hC₁ : h₀.get? C = _ := X₁ _ _ hC
  refine ks_wpAny_isType_cls hC₁ rfl ⟨rfl, ?_⟩
  refine ks_wpAny_call_super hC₁ rfl hx₁ rfl (fun c e => by cases e) (looks_mroIn X₁ T.seC) (fun h₂ hso k₂ => ?_)
  have X₂ : K.In h₂ := X₁.keeps k₂
  have hx₂ := k₂ _ _ hx₁
  have hC₂ := k₂ _ _ hC₁
  have hal : alongIn K "__init__" (((Value.ref C :: bm).dropWhile (· != .ref C)).drop 1) = some (some (.builtin "ValueError.__init__")) := by
    have := T.sup
    unfold ks_superIn at this
    rw [hcl] at this
    exact this
  have LI : Looks (model prog w) h₂ (isInstance (.ref x) (.type "ValueError")) true :=
    (show Looks (model prog w) h₂ (typeOf (.ref x)) (.ref C) from fun A Q E s k q => wpAny_typeOf_ref (k _ _ hx₂) q).andThen (looks_subIn X₂ T.vaC)
  refine kxs_getMethod kxs_ValueError hso (T.opC _ _ X₂) ((looks_clsIn X₂ hcl).andThen .now) rfl X₂ hal LI xC rfl ?_
  have lx : x < h₂.objs.size := Heap.lt_size hx₂
  have hu₃ : (h₂.push (kxs_mw "ValueError.__init__" x)).get? h₂.objs.size = some (kxs_mw "ValueError.__init__" x) := Heap.get?_push_size _ rfl
  have k₃ : ∀ b o, h₂.get? b = some o → (h₂.push (kxs_mw "ValueError.__init__" x)).get? b = some o := fun b o e => Heap.get?_push_of_some _ e
  have hns₃ := (hns.keeps k₂).keeps k₃
  refine kxs_callWith (i := "ValueError.__init__") (x := x) rfl (evalArgs_plain (spliced_cons ?_))
  have big : (1000 + 100000 : Nat) ≤ sizeLine := by rw [sizeLine_eq]; decide
  have lapp : ∀ a b : Str, (a ++ b).length = a.length + b.length := fun a b => Array.size_append
  have l0 : (Str.empty ++ pre).length ≤ 1000 := by rw [lapp]; exact (by have : Str.empty.length = 0 := rfl; omega)
  refine wpAny_JoinedStr (pos := p.j1) (wpAny_Constant_str ⟨pre, _, rfl, by omega, ?_⟩)
  refine wpAny_mono (E := fun _ _ => False) (Q := fun v s' => ∃ (y' : Str) (tk' : Tok) (tk2 : Nat), v = Value.str y' tk' ∧ y'.length ≤ 100000 ∧ s' = ⟨h₂.push (kxs_mw "ValueError.__init__" x), s.gens, s.drawn, tk2, s.os⟩) ?_ (fun v' s' hh => ?_) (fun _ _ z => z.elim)
  · refine wpAny_FormattedValue_repr (wpAny_Name (wpAny_loadName_local ek kat (by rw [eloc]; exact hns₃) hmat ?_) ad)
    obtain ⟨y, t, rfl, hl⟩ := hv
    have hz : (reprText y).length ≤ sizeLine := by omega
    exact pyReprObj_str (wpAny_formatField_str ⟨_, _, _, rfl, hl, rfl⟩ ⟨_, _, _, rfl, hl, rfl⟩ hz) hz
  obtain ⟨y', tk', tk2, rfl, hy', rfl⟩ := hh
  refine ⟨y', tk', rfl, by rw [lapp]; omega, ?_⟩
  refine ⟨by rw [lapp]; omega, ?_⟩
  refine spliced_nil ⟨hu₃, ?_⟩
  refine call_mw (k₃ _ _ hC₂) hu₃ (k₃ _ _ hx₂) (by rw [sizeLine_eq]; exact (by decide : (1 : Nat) ≤ 16777216)) (fun h₄ k₄ hx₄ => ?_)
  have old : ∀ b o, b ≠ x → s.heap.get? b = some o → h₄.get? b = some o := fun b o hb e => k₄ b o hb (k₃ _ _ (k₂ _ _ (hk _ _ e)))
  have X₄ : K.In h₄ := fun a o e => old a o (fun z => by rw [z, hnx] at e; cases e) (X a o e)
  have hLx : s.heap.objs.size ≠ x := Nat.ne_of_gt (Heap.lt_size hx)
  obtain ⟨oL, es, ep, hoL, hdL, hrL⟩ := hns₃
  have hns₄ : h₄.Ns s.heap.objs.size (fun y => List.lookup y [(("self" : Str), Value.ref x), (at', v)].reverse) := ⟨oL, es, ep, k₄ _ _ hLx hoL, hdL, hrL⟩
  show PySem.wpAt _ _ _ (execs [Stmt.Assign [(Expr.Name (Str.ofString "self") p.q1).Attribute at' p.q2] (Expr.Name at' p.q3) p.q4] env) _ _ _
  refine ks_wpAt_execs_cons (wpAt_of_wpAny (plainObj_wpAny_Assign_Attribute ?_))
  refine wpAny_Name (wpAny_loadName_local ek kat (by rw [eloc]; exact hns₄) hmat ?_) ad
  refine wpAny_Name (wpAny_loadName_local ek kself (by rw [eloc]; exact hns₄) hmself ?_) (by decide)
  refine set_plain X₄ (ox := excO C _) (od := none) ⟨hx₄, rfl, rfl, trivial⟩ T.sa ?_
  refine exc_osa X₄ hx₄ hcl (show refsVE (.ref C :: bm) = true from hbm) rfl T.noN (fun h₅ tk₅ dx k₅ dn dne hx₅ hn₅ => ?_)
  refine wpAt_of_wpAny (wpAny_execs_nil (hq h₅ tk₅ dx _ ⟨fun b o hb e => k₅ b o hb (old b o hb e), hx₅, ?_, dne, hn₅⟩))
  exact Nat.le_trans (Nat.le_of_lt (Heap.lt_size (k₄ _ _ hLx hoL))) dn
/-- a made one -/
structure OwnMade (h h' : Heap) (e C d : Addr) (at' : Str) (v : Value) : Prop where
  keep : ∀ b o, h.get? b = some o → h'.get? b = some o
  new : h.objs.size ≤ e
  obj : ∃ oe vs, h'.get? e = some oe ∧ oe.cls = .ref C ∧ oe.dict = some d ∧ oe.data = .fields vs ∧ vs[1]? = some .none
  dbig : h.objs.size ≤ d
  dne : d ≠ e
  ns : h'.Ns1 d (fun y => if y = at' then some v else none)
theorem made (T : Txt prog K mg n at' pre qual C fI cc cda) {v : Value} (hv : Told v) (X : K.In s.heap) (G : s.heap.Ns mainGlobals mg) (B : s.heap.Ns builtinsNs mb) (hB : mb "super" = some (.type "super")) (hlim : s.heap.NoLimit) (hroom : A.depth + 1 < recursionLimit)
    (hq : ∀ h' tk e d, OwnMade s.heap h' e C d at' v → R (.ok (.ret (.ref e))) { s with heap := h', toks := tk }) :
    codeAny (model prog w) A (.call (.ref C) ⟨[v], []⟩) R s := by
  obtain ⟨nm, q, N, bs, bm, sn, sub, ab, col, dd, k0, k1, k2, k3, k5, hC, hbm⟩ := T.cls
  obtain ⟨hp, g, dr, tk, os⟩ := s
  have k : ∀ b o, hp.get? b = some o → ((hp.push (kdv_tup [v])).push (excO C hp.objs.size)).get? b = some o := fun b o e => Heap.get?_push_of_some _ (Heap.get?_push_of_some _ e)
  have hget : ((hp.push (kdv_tup [v])).push (excO C hp.objs.size)).get? (hp.objs.size + 1) = some (excO C hp.objs.size) := by heap_get
  have hnx : K.lookup (hp.objs.size + 1) = none := by
    cases e : K.lookup (hp.objs.size + 1) with
    | none => rfl
    | some o =>
      have z : hp.get? (hp.objs.size + 1) = some o := X _ _ e
      exact absurd (Nat.lt_of_succ_lt (Heap.lt_size z)) (Nat.lt_irrefl _)
  refine call_own F.excBase_ValueError (fun X => refsVE_contains X bm hbm) (X _ _ hC) (looks_findIn X T.iC) (fun self => bind_fn X self T.tC) (by rw [sizeLine_eq]; exact (by decide : (1 : Nat) ≤ 16777216)) ?_
  refine init (s := ⟨(hp.push (kdv_tup [v])).push (excO C hp.objs.size), g, dr, tk, os⟩) T hv (X.keeps k) (G.keeps k) (B.keeps k) hB (hlim.keeps k) hget hnx ?_ fun h' tk' dx t1 ⟨k', hx, dn, dne, hns⟩ => ?_
  · show A.depth + 1 < recursionLimit
    exact hroom
  · have old : ∀ b o, hp.get? b = some o → h'.get? b = some o := fun b o e => k' b o (Nat.ne_of_lt (Nat.lt_succ_of_lt (Heap.lt_size e))) (k b o e)
    have z : hp.objs.size + 1 + 1 ≤ dx := by
      first
        | (simpa only [Heap.size_push] using dn)
        | exact dn
        | (have q := dn; rw [Heap.size_push, Heap.size_push] at q; exact q)
    exact ⟨rfl, hq h' tk' (hp.objs.size + 1) dx ⟨old, Nat.le_succ _, ⟨_, _, hx, rfl, rfl, rfl, rfl⟩, Nat.le_trans (Nat.le_trans (Nat.le_succ _) (Nat.le_succ _)) z, dne, hns⟩⟩
end
end Ox
section
open PySem PySem.Spec PyProof.Rows L2
theorem relO_one {v : V} {v' : Value} {at' : Str} (r : RelV v v') (f : Str) : RelO (List.lookup f [(at', v)]) (if f = at' then some v' else none) := by
  by_cases hw : f = at'
  · subst hw
    rw [if_pos rfl]
    have q : List.lookup f [(f, v)] = some v := by simp [List.lookup]
    rw [q]
    exact r
  · rw [if_neg hw]
    have qw : (f == at') = false := by simpa using hw
    have q2 : List.lookup f [(at', v)] = none := by simp [List.lookup, qw]
    rw [q2]
    trivial
variable {ER : Exn → Value → Option Addr → Hp → Hp → Prop} {P : Program} {w : World} {K : Frag} {mg : Str → Option Value} {base : Heap} {c : Nat} {n at' pre qual : Str} {C fI cc cda : Addr}
/-- what an exception with one field is, in the abstract heap -/
def OxAt (C : Addr) (at' : Str) (x : Exn) (cls : Value) (d : Option Addr) (F H : Hp) : Prop := cls = .ref C ∧ ∃ dd v, d = some dd ∧ H dd = some (.xd [(at', v)]) ∧ At F v x.arg
theorem exn_ok (T : Ox.Txt P K mg n at' pre qual C fI cc cda) (hE : ∀ d cls dd F H, OxAt C at' ⟨c, d⟩ cls dd F H → ER ⟨c, d⟩ cls dd F H) : ExnOk ER P w K mg base c n := by
  intro k X E0 N sc cx hgl e' p pos hbad pins s σ H Q I h
  have hg : Gl X n := cx.gl hgl
  have e1 := cx.eP; have e2 := cx.eK; have e3 := cx.emg
  subst e1; subst e2; subst e3
  refine wpAny_Call_Name_kw (ld_glob I hg T.gC ?_ (gl_of hgl).2.1)
  let Z : List V → Hp → Prop := fun vs H1 => match vs with
    | [v] => ∃ (F : Hp) (d : D), Sub F H1 ∧ At F v d ∧ exArg d = true ∧ ∀ cls dd F2 H2, Step none1 F H1 none1 F2 H2 → Sub F2 H2 → ER ⟨c, d⟩ cls dd F2 H2 → Q cls dd H2
    | _ => False
  have h' : tCons (WE X e') tNil σ H Z := h
  refine PySem.W.callWith_K (h₀ := X.base) I.ok.mod.kin T.kC (thn ((pa_cons WE.pe pa_nil (star_good hbad)).run pos pins s σ H Z I h') fun us s1 hh => ?_) (star_good hbad) rfl
  obtain ⟨vs, H1, I1, r1, q1⟩ := hh
  match vs, r1, q1 with
  | [], _, q1 => exact (q1 : False).elim
  | _ :: _ :: _, _, q1 => exact (q1 : False).elim
  | [v], r1, q1 =>
  obtain ⟨F, d, sub, hd, hea, q1⟩ := q1
  refine ⟨I1.kIn, ?_⟩
  cases r1 with
  | cons rv rn =>
    rename_i v' us'
    cases rn
    have told : Ox.Told v' := by
      cases hd with
      | str x =>
        obtain ⟨t, rfl⟩ := rv
        exact ⟨x, t, rfl, of_decide_eq_true hea⟩
      | _ => cases hea
    show wpAny _ _ (call (.ref C) [v']) _ _ _
    have hlim := I1.nolimit
    obtain ⟨mb, hmb, hbb⟩ := I1.ok.mod.blt
    have bk : ∀ b o, X.base.get? b = some o → s1.heap.get? b = some o := I1.bk
    have G1 : s1.heap.Ns mainGlobals X.mg := I1.ok.mod.glob.keeps bk
    have B1 := hmb.keeps bk
    have hsup : mb "super" = some (.type "super") := (hbb _ (by decide)).trans (by decide +kernel)
    obtain ⟨hp, g, dr, tk, os⟩ := s1
    refine wpAny_call (Ox.made T told I1.kIn G1 B1 hsup hlim (by have := cx.room.dp; omega) fun h' tk' e d' M => ?_)
    show MkP X pins σ Q (.ref e) ⟨h', g, dr, tk', os⟩
    obtain ⟨oe, fv, hoe, hc, hd2, hdat, h1⟩ := M.obj
    have hns := M.ns
    obtain ⟨G', g1, g2⟩ := restrict h' fun b => decide (b ≠ e)
    have gk : ∀ b, b ≠ e → G'.get? b = h'.get? b := fun b hb => g1 b (decide_eq_true hb)
    have ge : G'.get? e = none := g2 e (by simp)
    have old : ∀ b o, hp.get? b = some o → G'.get? b = some o := fun b o q => (gk b (Nat.ne_of_lt (Nat.lt_of_lt_of_le (Heap.lt_size q) M.new))).trans (M.keep b o q)
    have ob : ObjOk X.prog X.w (upd H1 d' (.xd [(at', v)])) G' d' (.xd [(at', v)]) :=
      ⟨_, hns.at (fun o q => (gk d' M.dne).trans q), fun f => relO_one rv f⟩
    have J : Inv X pins σ (upd H1 d' (.xd [(at', v)])) ⟨G', g, dr, tk', os⟩ := I1.laid (t' := tk') old M.dbig ob
    have hn : H1 d' = none := I1.hok.fresh M.dbig
    have st : Step none1 F H1 none1 F (upd H1 d' (.xd [(at', v)])) := (step_new hn sub).weak (fun _ q => q) fun _ q => q.elim
    refine ⟨e, oe, fv, ⟨G', g, dr, tk', os⟩, _, .ref C, some d', rfl, J, fun b o q => ?_, ge, hoe, ⟨hc, hd2⟩, hdat, h1, ?_, rfl, I1.bare, raises_own T.exC T.tyC, q1 _ _ F _ st (sub.putR (sub.no hn)) (hE _ _ _ _ _ ⟨rfl, d', v, rfl, upd_same, hd⟩)⟩
    · by_cases hb : b = e
      · have q' : G'.get? b = some o := q
        rw [hb, ge] at q'; cases q'
      · exact (gk b hb).symm.trans q
    · rw [upd_ne (Ne.symm M.dne)]
      exact I1.hok.fresh M.new
end
end Mi
end
section
set_option Elab.async false
set_option linter.all false
set_option maxRecDepth 100000
/-! isinstance of a caught exception that bears a dict; its field -/
namespace Mi
namespace Ox
open PySem PySem.Spec PySem.Calls PyProof.Rows PySem.W
section
variable {prog : Program} {w : World} {A : Around} {E : Value → Shared → Prop} {s : Shared} {K : Frag} {x D : Addr} {ox : Obj} {od : Option Obj}
theorem fodX {C : Addr} {name : Str} {a g : Value} (hc : (clsIn K C).isSome = true) (ha : findIn K (.ref C) name = some (some a)) (hg : specialIn K a "__get__" = some (some g)) (ht : takesIn K a = some true) : findObj K C od name = some (.bind g a) := by
  obtain ⟨cd, hc⟩ := Option.isSome_iff_exists.mp hc
  unfold findObj
  rw [hc, Option.bind_some, ha, Option.bind_some]
  simp [hg, ht]
theorem kin_classX {Q : Option Value → Shared → Prop} (hga : findIn K (.ref D) "__getattribute__" = some (some (.builtin "BaseException.__getattribute__"))) (hgt : findIn K (.ref D) "__getattr__" = some none) (hsub : subIn K (.ref D) (.type "BaseException") = some true)
    (hdct : hasDictIn K D = true) (ha : findIn K (.ref D) "__class__" = some (some (.builtin "object.__class__")))
    (hn : specialIn K (.builtin "object.__class__") "__get__" = some (some (.builtin "getset_descriptor.__get__"))) (htk : takesIn K (.builtin "object.__class__") = some true) (hm : mroIn K D (.type "object") = some true)
    (X : K.In s.heap) (I : InstAt s.heap x ox D od) (h : Q (some (.ref D)) { s with toks := s.toks + 1 }) : wpAny (model prog w) A (getAttr? (.ref x) "__class__") Q E s := by
  have hf : findObj K D od "__class__" = some (.bind (.builtin "getset_descriptor.__get__") (.builtin "object.__class__")) := fodX (by obtain ⟨cd, hc, _⟩ := any_some hdct; rw [hc]; rfl) ha hn htk
  obtain ⟨hp, g, d, t, os⟩ := s
  have L0 := I.type (M := model prog w)
  have L1 := looks_findIn (M := model prog w) X hga
  have L2 := looks_findIn (M := model prog w) X hgt
  have L3 := looks_find (M := model prog w) X I hf
  have sub : Looks (model prog w) hp (isInstance (.ref x) (.type "BaseException")) true := L0.andThen (looks_subIn X hsub)
  have hx0 : (false && onTheHeap (Value.builtin "BaseException.__getattribute__")) = false := rfl
  have hx2 : (Value.builtin "BaseException.__getattribute__" == Value.builtin "object.__getattribute__") = false := by decide +kernel
  have hx1 : (onTheHeap (Value.ref D) && Value.builtin "BaseException.__getattribute__" == Value.builtin "object.__getattribute__") = false := by rw [hx2]; rfl
  unfold getAttr? getAttrBy? getAttrBy
  refine wpAny_bind (wpAny_mkText (wpAny_bind (wpAny_attempt (wpAny_holding (wpAny_bind (L0.at (wpAny_bind (L1.at ?_))))))))
  show wpAny _ _ (if (onTheHeap (Value.ref D) && Value.builtin "BaseException.__getattribute__" == Value.builtin "object.__getattribute__") = true then _ else _) _ _ _
  rw [hx1, if_neg Bool.false_ne_true]
  unfold getAttrByItsOwn hookBefore
  refine wpAny_bind ?_
  rw [if_pos (show onTheHeap (Value.ref D) = true from rfl)]
  refine L2.at ?_
  refine wpAny_bind (wpAny_attempt (wpAny_holding ?_))
  unfold callGetattribute
  rw [hx0, if_neg Bool.false_ne_true]
  unfold boundAndCalled
  rw [PySem.F.excAttr_ValueError.ga.bind (.ref x)]
  refine wpAny_bind (wpAny_pure ?_)
  show wpAny _ _ (call (.builtin "BaseException.__getattribute__") [.ref x, .str "__class__" t]) _ _ _
  refine wpAny_call (codeAny_call_builtin PySem.F.excAttr_ValueError.ga.plain PySem.F.entry_bexc_ga ?_)
  refine @check_slot (model prog w) _ _ ⟨hp, g, d, t + 1, os⟩ "BaseException.__getattribute__" "BaseException" "__getattribute__" (.ref x) [.str "__class__" t] [] _ (by decide +kernel) (by decide +kernel) sub (PySem.F.args_bexc_ga (.ref x) (.str "__class__" t)) ?_
  unfold Builtin.«object.__getattribute__»
  refine wpAny_bind (wpAny_of_eq (a := ((Value.ref x : Value), [Value.str "__class__" t])) (by first | rfl | (simp only [slotArgs]; rfl)) ?_)
  refine wpAny_bind (wpAny_pure (wpAny_bind (L0.at (wpAny_bind (L3.at ?_)))))
  show wpAny _ _ (holding [Value.builtin "object.__class__"] (call (.builtin "getset_descriptor.__get__") [.builtin "object.__class__", .ref x, .ref D]) >>= ret) _ _ _
  refine wpAny_bind (wpAny_holding (wpAny_call (class_get (s := ⟨hp, g, d, t + 1, os⟩) (ox := ox) (od := od) X I hm ?_)))
  refine wpAny_pure ?_
  show wpAny _ _ (handedOut (.ref D)) _ _ _
  rw [handedOut_of (v := .ref D) rfl]
  first
    | exact wpAny_pure (wpAny_pure h)
    | exact wpAny_pure h
    | exact wpAny_pure (wpAny_bind (wpAny_pure (wpAny_pure h)))
theorem kitx_exX (hga : findIn K (.ref D) "__getattribute__" = some (some (.builtin "BaseException.__getattribute__"))) (hgt : findIn K (.ref D) "__getattr__" = some none) (hsub : subIn K (.ref D) (.type "BaseException") = some true) (hdct : hasDictIn K D = true) (ha : findIn K (.ref D) "__class__" = some (some (.builtin "object.__class__")))
    (hn : specialIn K (.builtin "object.__class__") "__get__" = some (some (.builtin "getset_descriptor.__get__"))) (htk : takesIn K (.builtin "object.__class__") = some true) (hm : mroIn K D (.type "object") = some true) :
    KitX K (.ref x) (.ref D) (fun h => InstAt h x ox D od) where
  ty := fun _ _ _ I => I.type
  it := fun _ _ X _ => by
    obtain ⟨cdD, hcD, _⟩ := any_some hdct
    unfold clsIn at hcD
    split at hcD
    · rename_i c' d' cd' sl' ho
      intro A' Q' E' s' k q
      unfold isType loadHead
      exact wpAny_bind (wpAny_loadPart (k _ _ (X _ _ ho)) (wpAny_pure q))
    · cases hcD
  ne := fun h tp dd its n sl X htp => by
    obtain ⟨cdD, hcD, _⟩ := any_some hdct
    refine Bool.eq_false_iff.mpr fun q => ?_
    have e : D = tp := Value.ref.inj (beq_iff_eq.mp q)
    subst e
    unfold clsIn at hcD
    split at hcD
    · rename_i c' d' cd' sl' ho
      have z := (X _ _ ho).symm.trans htp
      cases z
    · cases hcD
  ca := fun X I k => kin_classX hga hgt hsub hdct ha hn htk hm X I k
end
end Ox
section
open PySem PySem.Spec PyProof.Rows L2
variable {X : Cx} {a D : Addr} {oe : Obj} {pn : List (Addr × Obj)}
/-- isinstance(e, c), e a caught exception with the dict d whose fields are told -/
def rIsX (K : PySem.W.Frag) (D a : Addr) (d : Option Addr) : List V → Hp → VK → Prop := fun xs H Q => ∃ (c : V) (cv : Value) (b : Bool) (dd : Addr) (fs : List (Str × V)), xs = [.ref a, c] ∧ d = some dd ∧ H dd = some (.xd fs) ∧ (∀ u, RelV c u → u = cv) ∧ PySem.W.kitOne K (.ref D) cv = some b ∧ Q (.bl b) H
theorem call_isX {d : Option Addr} (C : ExcC X.K D) (hz : Zc (.ref D) d oe) (hf : ∃ vs, oe.data = .fields vs) : CallR (X.suite a ((a, oe) :: pn)) (.builtin "isinstance") (rIsX X.K D a d) := by
  intro pins s σ H xs us Q I r h
  obtain ⟨c, cv, b, dd, fs, rfl, rfl, ed, hcv, e, q⟩ := h
  cases r with
  | cons rx rr =>
    cases rr with
    | cons rt rr =>
      cases rr
      cases rx
      have ec := hcv _ rt
      subst ec
      obtain ⟨hget, _⟩ := I.pin (a, oe) (List.mem_append.mpr (.inl List.mem_cons_self))
      obtain ⟨vs, hv⟩ := hf
      have hx : ObjOk X.prog X.w H s.heap dd (.xd fs) := I.hok dd _ ed
      obtain ⟨mA, hns, hr⟩ := hx
      obtain ⟨od, ho, hl⟩ := lookIn_ns hns
      have J : PySem.W.InstAt s.heap a oe D (some od) := ⟨hget, hz.1, by unfold PySem.W.notCls; rw [hv] <;> rfl, by rw [hz.2]; exact ho⟩
      exact PySem.W.kia_one (Ox.kitx_exX C.hg C.hk C.hs C.hd C.ha C.hn C.ht C.hm) I.kIn J e (fun z => nomatch z) fun tk => ⟨.bl b, H, I.kept (t' := tk) fun _ _ z => z, rfl, q⟩
/-- e.f, e the caught exception with one field -/
def tByX (C : Addr) (at' : Str) (a : Addr) (cls : Value) (d : Option Addr) (te : TE) : TE := fun σ H Q => te σ H fun x H1 => x = .ref a ∧ cls = .ref C ∧ ∃ (dd : Addr) (v : V), d = some dd ∧ H1 dd = some (.xd [(at', v)]) ∧ Q v H1
theorem pe_byX {C fI cc cda : Addr} {n at' pre qual : Str} {P : Program} {mg : Str → Option Value} {cls : Value} {d : Option Addr} {e : Expr} {te : TE} {pos : Pos} (T : Ox.Txt P X.K mg n at' pre qual C fI cc cda) (hd : PySem.W.hasDictIn X.K C = true) (hz : Zc cls d oe) (hf : ∃ vs, oe.data = .fields vs) (he : PE (X.suite a ((a, oe) :: pn)) e te)
    (hb : attributeBase e at' X.env (eval e X.env) = eval e X.env) : PE (X.suite a ((a, oe) :: pn)) (.Attribute e at' pos) (tByX C at' a cls d te) := by
  refine ⟨fun pins s σ H Q I h => ?_⟩
  refine attr_of hb (thn (he.run pins s σ H _ I h) fun u s1 hh => ?_)
  obtain ⟨x, H1, I1, rx, ex, ec, dd, v, ed, ea, q⟩ := hh
  subst ex
  obtain rfl : u = Value.ref a := rx
  subst ec
  subst ed
  obtain ⟨ha, _⟩ := I1.pin (a, oe) (List.mem_append_left _ List.mem_cons_self)
  obtain ⟨vs, hd'⟩ := hf
  have hx : ObjOk X.prog X.w H1 s1.heap dd (.xd [(at', v)]) := I1.hok dd _ ea
  obtain ⟨mA, hns, hr⟩ := hx
  obtain ⟨od, ho, hl⟩ := lookIn_ns hns
  have l : List.lookup at' [(at', v)] = some v := by simp [List.lookup]
  obtain ⟨u, hu, ru⟩ := RelO.some_of (v := v) (o := mA at') (by rw [← l]; exact hr at')
  have J : PySem.W.InstAt s1.heap a oe C (some od) := ⟨ha, hz.1, by unfold PySem.W.notCls; rw [hd'] <;> rfl, by rw [hz.2]; exact ho⟩
  exact HandSPX.exc_get I1.kIn J T.ga T.gg T.exC (PySem.W.findObj_own hd T.noN rfl (by rw [hl, hu])) (handed_of ru) ⟨v, H1, I1.tok _, ru, q⟩
end
end Mi
end
section
set_option Elab.async false
set_option linter.all false
set_option maxRecDepth 100000
/-! rows without stores: what they raise is raised at the names as they stood -/
namespace Mi
open PySem L2
def PostT (ER : Exn → Value → Option Addr → Hp → Hp → Prop) (W : WX) (σ : L2.St) (pv : Nat → Option V) (o : Rs Fl) (M : Addr → Prop) (F H : Hp) (D : Ends) : Prop := match o with
  | .no => False
  | .ex x => ∀ cls d F' H', Step M F H none1 F' H' → Sub F' H' → ER x cls d F' H' → W cls d σ H'
  | .ok .nx env' => ∀ F' H' fp', Stt F' H' σ env' fp' pv → Step M F H (cov fp') F' H' → D.nx σ H'
  | .ok (.ret r) env' => ∀ v F' H' fp' A, Stt F' H' σ env' fp' pv → Step M F H (or2 (cov fp') A) F' H' → RvOk F' H' [] A v r → Nof F' H' A → Apart A (cov fp') → D.rt v H'
  | .ok _ _ => False
section
variable {Φ : Calls} {Wn : Nat} {ER : Exn → Value → Option Addr → Hp → Hp → Prop} {W : WX} {X : Cx} {P : Program} {w : World} {K : Frag} {mg : Str → Option Value} {base : Heap} {k : Nat} {N : List Str} {sc : Scope} {C : Cfg}
variable {F H F' H' : Hp} {σ : L2.St} {env env' : Env} {fp : Nat → Addr → Prop} {pv : Nat → Option V} {M M' A : Addr → Prop} {D : Ends}
variable {α β : Type} {o : Rs α} {kk : α → Env → Rs Fl} {R1 : Hp → Hp → (Addr → Prop) → β → α → Prop} {Q1 : β → Hp → Prop} {o' : Rs Fl}
theorem PostT.step (P : PostT ER W σ pv o' M F H D) (st : Step M F H M' F' H') : PostT ER W σ pv o' M' F' H' D := by
  cases o' with
  | no => exact P
  | ex x => exact fun cls d G J s2 h e => P cls d G J (st.trans s2) h e
  | ok f env =>
    cases f with
    | nx => exact fun G J fp S s2 => P G J fp S (st.trans s2)
    | brk => exact P
    | cnt => exact P
    | ret r => exact fun v G J fp A S s2 h n a => P v G J fp A S (st.trans s2) h n a
theorem PostT.less (P : PostT ER W σ pv o' M F H D) (h : ∀ b, M' b → M b) : PostT ER W σ pv o' M' F H D := by
  cases o' with
  | no => exact P
  | ex x => exact fun cls d G J s2 q e => P cls d G J (s2.weak h fun _ z => z.elim) q e
  | ok f env =>
    cases f with
    | nx => exact fun G J fp S s2 => P G J fp S (s2.weak h fun _ z => .inl z)
    | brk => exact P
    | cnt => exact P
    | ret r => exact fun v G J fp A S s2 h' n a => P v G J fp A S (s2.weak h fun _ z => .inl z) h' n a
theorem PostT.sp0 (P : PostT ER W σ pv (o.bind kk) M F H D)
    (h : ∀ a env' b F' H' fp' B, o = .ok a env' → Stt F' H' σ env' fp' pv → Step M F H (or2 (cov fp') B) F' H' → R1 F' H' B b a → Nof F' H' B → Apart B (cov fp') →
      PostT ER W σ pv (kk a env') (or2 (cov fp') B) F' H' D → Q1 b H') : Post ER (atS W σ) σ pv o R1 M F H Q1 := by
  cases e : o with
  | no => rw [e] at P; exact P
  | ex x => rw [e] at P; exact P
  | ok a env =>
    rw [e] at P
    intro b G J fp B S s2 r n ap2
    exact h a env b G J fp B e S s2 r n ap2 (PostT.step P s2)
def ST1 (Φ : Calls) (Wn : Nat) (ER : Exn → Value → Option Addr → Hp → Hp → Prop) (W : WX) (X : Cx) (s : Sm) (st : Stmt) : Prop := ∀ (env : Env) (F H : Hp) (σ : L2.St) (pv : Nat → Option V) (fp : Nat → Addr → Prop) (D : Ends), Stt F H σ env fp pv → PostT ER W σ pv (exc Φ Wn s env) (cov fp) F H D → WS X st D σ H
def STB (Φ : Calls) (Wn : Nat) (ER : Exn → Value → Option Addr → Hp → Hp → Prop) (W : WX) (X : Cx) (s : Sm) (st : List Stmt) : Prop := ∀ (env : Env) (F H : Hp) (σ : L2.St) (pv : Nat → Option V) (fp : Nat → Addr → Prop) (D : Ends), Stt F H σ env fp pv → PostT ER W σ pv (exc Φ Wn s env) (cov fp) F H D → WB X st D σ H
theorem still_expr {e : Ex} {e' : Expr} {pos : Pos} (hp : plainE e' = true) (he : SE Φ ER W X e e') : ST1 Φ Wn ER W X (.expr e) (.Expr e' pos) := by
  intro env F H σ pv fp D S P
  unfold exc at P
  refine ⟨_, ps_expr WE.pe (plain_sw (x := "") (px := pos) hp _), ?_⟩
  refine he env F H σ pv fp _ S (P.sp0 fun r e1 v F1 H1 fp1 A1 eo S1 st1 r1 n1 ap1 P1 => ?_)
  exact P1 F1 H1 fp1 S1 (Step.refl.weak (fun _ q => .inl q) fun _ q => .inl q)
theorem still_pass {pos : Pos} : ST1 Φ Wn ER W X .pass (.Pass pos) := by
  intro env F H σ pv fp D S P
  unfold exc at P
  exact ⟨_, ps_pass, P F H fp S (Step.refl.weak (fun _ q => q) fun _ q => .inl q)⟩
theorem still_ifs {c : Ex} {a b : Sm} {c' : Expr} {a' b' : List Stmt} {pos : Pos} (hc : ST Φ ER W X c c') (ha : STB Φ Wn ER W X a a') (hb : STB Φ Wn ER W X b b') : ST1 Φ Wn ER W X (.ifs c a b) (.If c' a' b' pos) := by
  intro env F H σ pv fp D S P
  unfold exc at P
  refine ⟨_, ps_if WT.pt WB.pss WB.pss, ?_⟩
  refine hc env F H σ pv fp _ S (P.sp0 fun r e1 v F1 H1 fp1 A1 eo S1 st1 r1 n1 ap1 P1 => ?_)
  cases r1
  cases r with
  | true => exact ha e1 F1 H1 σ pv fp1 D S1 (P1.less fun b q => .inl q)
  | false => exact hb e1 F1 H1 σ pv fp1 D S1 (P1.less fun b q => .inl q)
theorem still_ret {e : Ex} {e' : Expr} {pos : Pos} (he : SE Φ ER W X e e') : ST1 Φ Wn ER W X (.ret e) (.Return (some e') pos) := by
  intro env F H σ pv fp D S P
  unfold exc at P
  refine ⟨_, ps_ret WE.pe, ?_⟩
  refine he env F H σ pv fp _ S (P.sp0 fun r e1 v F1 H1 fp1 A1 eo S1 st1 r1 n1 ap1 P1 => ?_)
  cases r with
  | fz d => exact P1 v F1 H1 fp1 A1 S1 (Step.refl.weak (fun _ q => q) fun _ q => .inl q) r1 n1 ap1
  | ow n d => exact P1 v F1 H1 fp1 A1 S1 (Step.refl.weak (fun _ q => q) fun _ q => .inl q) r1 n1 ap1
  | vw i =>
    unfold leave at P1
    cases q : e1[i]? with
    | none => simp only [q] at P1; exact P1.elim
    | some s =>
      simp only [q] at P1
      cases s with
      | un => exact P1.elim
      | fz d => exact P1.elim
      | pn n d => exact P1.elim
      | ow n d =>
        dsimp only at P1
        obtain ⟨w', hw, ho⟩ := S1.own q
        rw [show σ[i]? = some (some v) from r1] at hw
        cases hw
        refine P1 v F1 H1 _ (fp1 i) (S1.move q) (Step.refl.weak (fun _ q => q) fun b z => .inl (.inl ?_)) ho (fun b z => S1.nof b ⟨i, z⟩) (fun b x y => ?_)
        · rcases z with z | z
          · exact drop1_cov z
          · exact ⟨i, z⟩
        · obtain ⟨j, ne, y⟩ := y
          exact ne (S1.dis j i b y x)
theorem still_skip : STB Φ Wn ER W X .skip [] := by
  intro env F H σ pv fp D S P
  unfold exc at P
  exact ⟨_, pss_nil, P F H fp S (Step.refl.weak (fun _ q => q) fun _ q => .inl q)⟩
theorem still_seq {a b : Sm} {s : Stmt} {r : List Stmt} (ha : ST1 Φ Wn ER W X a s) (hb : STB Φ Wn ER W X b r) : STB Φ Wn ER W X (.seq a b) (s :: r) := by
  intro env F H σ pv fp D S P
  unfold exc at P
  refine ⟨_, pss_cons WS.ps WB.pss, ?_⟩
  refine ha env F H σ pv fp { D with nx := fun σ H => WB X r D σ H } S ?_
  cases e : exc Φ Wn a env with
  | no => rw [e] at P; exact P
  | ex x => rw [e] at P; exact P
  | ok f e1 =>
    rw [e] at P
    cases f with
    | nx => exact fun F' H' fp' S' st => hb e1 F' H' σ pv fp' D S' (P.step st)
    | brk => exact P
    | cnt => exact P
    | ret q => exact P
end
/-- rows without stores -/
def still : Sm → Bool
  | .skip => true
  | .pass => true
  | .expr _ => true
  | .ret _ => true
  | .seq a b => still a && still b
  | .ifs _ a b => still a && still b
  | _ => false
mutual
theorem stS {Φ : Calls} {Wn : Nat} {ER : Exn → Value → Option Addr → Hp → Hp → Prop} {P : Program} {w : World} {K : Frag} {mg : Str → Option Value} {base : Heap} {k : Nat} {N : List Str} {C : Cfg} (T : Tab C P w K mg base Φ ER k) {X : Cx} {W : WX} {sc : Scope} (c : CxOk P w K mg base k N sc W X) :
    ∀ (s : Sm) {st : Stmt}, still s = true → mS C N sc s st = true → ST1 Φ Wn ER W X s st
  | .pass, st, _, h => by
    unfold mS at h; split at h <;> first | contradiction | (cases h; done) | skip
    exact still_pass
  | .expr e, st, _, h => by
    unfold mS at h; split at h <;> first | contradiction | (cases h; done) | skip
    rename_i he; cases he
    simp only [Bool.and_eq_true] at h
    exact still_expr h.1 (sE T e c h.2)
  | .ret e, st, _, h => by
    unfold mS at h; split at h <;> first | contradiction | (cases h; done) | skip
    rename_i he; cases he
    exact still_ret (sE T e c h)
  | .ifs d a b, st, hs, h => by
    unfold still at hs
    rw [Bool.and_eq_true] at hs
    unfold mS at h; split at h <;> first | contradiction | (cases h; done) | skip
    rename_i he; cases he
    simp only [Bool.and_eq_true] at h
    obtain ⟨⟨h1, h2⟩, h3⟩ := h
    exact still_ifs (sT T d c h1) (stB T c a hs.1 h2) (stB T c b hs.2 h3)
  | .skip, st, _, h => by unfold mS at h; first | (cases h; done) | (split at h <;> first | contradiction | (cases h; done))
  | .seq _ _, st, _, h => by unfold mS at h; first | (cases h; done) | (split at h <;> first | contradiction | (cases h; done))
  | .brk, st, hs, h => by unfold still at hs; cases hs
  | .cnt, st, hs, h => by unfold still at hs; cases hs
  | .set _ _, st, hs, h => by unfold still at hs; cases hs
  | .unp _ _, st, hs, h => by unfold still at hs; cases hs
  | .aug _ _ _, st, hs, h => by unfold still at hs; cases hs
  | .par _ _, st, hs, h => by unfold still at hs; cases hs
  | .sidx _ _ _, st, hs, h => by unfold still at hs; cases hs
  | .retn, st, hs, h => by unfold still at hs; cases hs
  | .for_ _ _ _, st, hs, h => by unfold still at hs; cases hs
  | .whl _ _, st, hs, h => by unfold still at hs; cases hs
  | .raise _ _, st, hs, h => by unfold still at hs; cases hs
termination_by structural s => s
theorem stB {Φ : Calls} {Wn : Nat} {ER : Exn → Value → Option Addr → Hp → Hp → Prop} {P : Program} {w : World} {K : Frag} {mg : Str → Option Value} {base : Heap} {k : Nat} {N : List Str} {C : Cfg} (T : Tab C P w K mg base Φ ER k) {X : Cx} {W : WX} {sc : Scope} (c : CxOk P w K mg base k N sc W X) :
    ∀ (s : Sm) {st : List Stmt}, still s = true → mB C N sc s st = true → STB Φ Wn ER W X s st
  | .skip, [], _, h => still_skip
  | .skip, _ :: _, _, h => by unfold mB at h; cases h
  | .seq a b, [], _, h => by unfold mB at h; cases h
  | .seq a b, s :: r, hs, h => by
    unfold still at hs
    rw [Bool.and_eq_true] at hs
    unfold mB at h
    rw [Bool.and_eq_true] at h
    exact still_seq (stS T c a hs.1 h.1) (stB T c b hs.2 h.2)
  | .pass, st, _, h => by unfold mB at h; first | (cases h; done) | (split at h <;> first | contradiction | (cases h; done))
  | .brk, st, _, h => by unfold mB at h; first | (cases h; done) | (split at h <;> first | contradiction | (cases h; done))
  | .cnt, st, _, h => by unfold mB at h; first | (cases h; done) | (split at h <;> first | contradiction | (cases h; done))
  | .set _ _, st, _, h => by unfold mB at h; first | (cases h; done) | (split at h <;> first | contradiction | (cases h; done))
  | .unp _ _, st, _, h => by unfold mB at h; first | (cases h; done) | (split at h <;> first | contradiction | (cases h; done))
  | .aug _ _ _, st, _, h => by unfold mB at h; first | (cases h; done) | (split at h <;> first | contradiction | (cases h; done))
  | .par _ _, st, _, h => by unfold mB at h; first | (cases h; done) | (split at h <;> first | contradiction | (cases h; done))
  | .sidx _ _ _, st, _, h => by unfold mB at h; first | (cases h; done) | (split at h <;> first | contradiction | (cases h; done))
  | .expr _, st, _, h => by unfold mB at h; first | (cases h; done) | (split at h <;> first | contradiction | (cases h; done))
  | .ret _, st, _, h => by unfold mB at h; first | (cases h; done) | (split at h <;> first | contradiction | (cases h; done))
  | .retn, st, _, h => by unfold mB at h; first | (cases h; done) | (split at h <;> first | contradiction | (cases h; done))
  | .ifs _ _ _, st, _, h => by unfold mB at h; first | (cases h; done) | (split at h <;> first | contradiction | (cases h; done))
  | .for_ _ _ _, st, _, h => by unfold mB at h; first | (cases h; done) | (split at h <;> first | contradiction | (cases h; done))
  | .whl _ _, st, _, h => by unfold mB at h; first | (cases h; done) | (split at h <;> first | contradiction | (cases h; done))
  | .raise _ _, st, _, h => by unfold mB at h; first | (cases h; done) | (split at h <;> first | contradiction | (cases h; done))
termination_by structural s => s
end
end Mi
end
section
set_option Elab.async false
set_option linter.all false
set_option maxRecDepth 100000
/-! a def whose body is: try: rows without stores, except C as e: a suite that gives data; then rows -/
namespace Mi
open PySem L2
structure Tr where
  names : List Str
  np : Nat
  body : Sm
  after : Sm
  ei : Nat
  cls : Nat
  ans : Exn → List SV → Option D
def isFz : SV → Bool
  | .fz _ => true
  | _ => false
def Tr.start (d : Tr) (ss : List SV) : Env := ss ++ List.replicate (d.names.length - ss.length) .un
def Tr.run (Φ : Calls) (W : Nat) (d : Tr) (ss : List SV) : Ans :=
  if ss.length = d.np ∧ ss.all isFz = true then match exc Φ W d.body (d.start ss) with
    | .no => .no
    | .ex x => if x.cls = d.cls then (match d.ans x ss with | some v => .ok (.fz v) ss | none => .no) else .no
    | .ok f env => match f with
      | .ret r => .ok r ss
      | .nx => (match exc Φ W d.after env with
        | .ok (.ret r) _ => .ok r ss
        | _ => .no)
      | _ => .no
  else .no
section
variable {Φ : Calls} {Wn : Nat} {ER : Exn → Value → Option Addr → Hp → Hp → Prop} {P : Program} {w : World} {K : Frag} {mg : Str → Option Value} {base : Heap} {k : Nat} {C : Cfg}
theorem tr_ok {d : Tr} {ps : List Str} {x qual n xc : Str} {st : Stmt} {f : Addr} {fd : FuncData} {cv : Value} {bd : List Stmt} {np' : Pos} {b₀ : Stmt} {suite rest : List Stmt} {pos' pos : Pos} {ts : Cx → Addr → Value → Option Addr → TS}
    (Fn : Fun K x qual st f fd) (S : FnScope d.names ps (defScope st)) (T : Tab C P w K mg base Φ ER k) (hn : ps.length = d.np)
    (hbody : defBody st = .Try bd [.ExceptHandler (some (.Name xc np')) (some n) (b₀ :: suite) pos'] [] [] pos :: rest)
    (hst : still d.body = true) (hB : mB C d.names (defScope st) d.body bd = true) (hA : mB C d.names (defScope st) d.after rest = true)
    (hi : d.names[d.ei]? = some n) (hln : (defScope st).names.lookup n = some .local) (hgl : gl (defScope st) xc = true) (hmc : mg xc = some cv)
    (hex : ∀ x cls dd F H, ER x cls dd F H → x.cls = d.cls → PySem.W.exmOne K cls cv = some true)
    (hsu : ∀ (X : Cx) (E : XK), CxOk P w K mg base k d.names (defScope st) (Wk E) X → ∀ (a : Addr) (oe : Obj) (cls : Value) (dd : Option Addr) (pn : List (Addr × Obj)), Zc cls dd oe → (∃ vs, oe.data = .fields vs) → PSs (X.suite a ((a, oe) :: pn)) (b₀ :: suite) (ts X a cls dd))
    (hts : ∀ (X : Cx) (E : XK), CxOk P w K mg base k d.names (defScope st) (Wk E) X → ∀ (x : Exn) (ss : List SV) (vs : List V) (F H : Hp) (cls : Value) (dd : Option Addr) (a : Addr) (r : D) (De : Ends), ER x cls dd F H → x.cls = d.cls → d.ans x ss = some r → Sub F H → vs.length = d.np → ss.length = d.np →
      (∀ (i : Nat) s v, ss[i]? = some s → vs[i]? = some v → SlotOk F H none1 (some v) s) → (∀ v', At F v' r → De.rt v' H) → ts X a cls dd De ((start d.names vs).set d.ei (some (.ref a))) H) :
    FnOk P w K mg base (L2.CX P w) (k + 1) f fd ps (SpOf ER ps.length (d.run Φ Wn)) := by
  refine Fn.okX S (fun vs H Q E h => ?_) (fun cdv A outer s H vs Q E hr h => ?_)
  · obtain ⟨_, _, _, _, l, _⟩ := h
    exact l
  have hp : ps.length ≤ d.names.length := by
    have := congrArg List.length S.pre
    rw [List.length_take] at this
    omega
  obtain ⟨F, ss, fp, sub, lv, ls, hs, hl, dis, nof, ans⟩ := h
  rw [hn] at lv ls
  generalize hX : cxOf (L2.CX P w) P w K mg base d.names qual (defScope st) f cdv A outer s H E = X
  have cx : CxOk P w K mg base k d.names (defScope st) (Wk E) X := by
    subst hX
    exact ⟨rfl, rfl, rfl, rfl, rfl, rfl, S.nd, rfl, rfl, hr, takes_of rfl rfl rfl rfl⟩
  have Lx : Locs d.names (defScope st) X := by
    subst hX
    refine ⟨rfl, S.nd, rfl, fun x hx => ⟨?_, .inl rfl⟩⟩
    unfold loc at hx
    show (defScope st).names.lookup x = some .local ∨ (defScope st).names.lookup x = some .cell
    split at hx <;> first | (left; assumption) | (right; assumption) | cases hx
  have hpo : PassesOwn (model X.prog X.w) X.A X.env X.xe := by subst hX; exact passes_of rfl
  have hsk : X.stack = X.env :: X.outer := by subst hX; rfl
  have hfr : X.env.frame = some X.env.locals := by subst hX; rfl
  have S0 : Stt F H (start d.names vs) (d.start ss) fp (fun i => vs[i]?) := by
    refine ⟨sub, ?_, fun i s e => ?_, dis, nof, fun i n x e => ?_⟩
    · unfold L2.start Tr.start
      simp only [List.length_append, List.length_map, List.length_replicate]
      omega
    · have e' : (∃ s', ss[i]? = some s' ∧ s = s') ∨ (ss.length ≤ i ∧ s = .un) := start_get (d := ⟨d.names, d.np, .skip⟩) e
      rcases e' with ⟨s', e', rfl⟩ | ⟨_, rfl⟩
      · have hi : i < vs.length := by have := (List.getElem?_eq_some_iff.1 e').1; omega
        have hv : vs[i]? = some vs[i] := List.getElem?_eq_getElem hi
        have z := hs i s _ e' hv
        have e2 : (start d.names vs)[i]? = some (some vs[i]) := by
          unfold L2.start
          rw [List.getElem?_append_left (by rw [List.length_map]; exact hi), List.getElem?_map, hv]; rfl
        rw [e2]; exact z
      · trivial
    · have e' : (∃ s', ss[i]? = some s' ∧ (SV.pn n x) = s') ∨ (ss.length ≤ i ∧ (SV.pn n x) = .un) := start_get (d := ⟨d.names, d.np, .skip⟩) e
      rcases e' with ⟨s', e', rfl⟩ | ⟨_, z⟩
      · have hi : i < vs.length := by have := (List.getElem?_eq_some_iff.1 e').1; omega
        have hv : vs[i]? = some vs[i] := List.getElem?_eq_getElem hi
        show (start d.names vs)[i]? = some vs[i]?
        unfold L2.start
        rw [List.getElem?_append_left (by rw [List.length_map]; exact hi), List.getElem?_map, hv]; rfl
      · cases z
  unfold Tr.run at ans
  by_cases hc : ss.length = d.np ∧ ss.all isFz = true
  case neg => rw [if_neg hc] at ans; exact (ans : False).elim
  rw [if_pos hc] at ans
  have slots : ∀ {F1 H1 : Hp} {A1 : Nat → Addr → Prop}, Sub F F1 → ∀ (i : Nat) s v, ss[i]? = some s → vs[i]? = some v → SlotOk F1 H1 (A1 i) (some v) s := fun {F1 H1 A1} s1 i s v e ev => by
    have fz := List.all_eq_true.1 hc.2 s (List.mem_of_getElem? e)
    have z := hs i s v e ev
    cases s with
    | fz d => obtain ⟨v', hv, ha⟩ := z; exact ⟨v', hv, At.mono s1 ha⟩
    | _ => cases fz
  have fin : ∀ {r : RV} {v : V} {F1 H1 : Hp} {fp1 : Nat → Addr → Prop} {A1 : Addr → Prop}, AnsOk ER vs fp F H Q E (.ok r ss) → Sub F1 H1 → Step (cov fp) F H (or2 (cov fp1) A1) F1 H1 → RvOk F1 H1 [] A1 v r → Nof F1 H1 A1 → Q v H1 := by
    intro r v F1 H1 fp1 A1 an s1 st r1 n1
    refine an v F1 H1 (fun _ _ => False) A1 (st.weak (fun _ q => q) fun b q => ?_) s1 r1 (slots st.sub) (fun _ _ _ z => z.elim) (fun b z => ?_) (fun b x ⟨_, y⟩ => y)
    · rcases q with ⟨_, z⟩ | q
      · exact z.elim
      · exact .inl (.inr q)
    · rcases z with ⟨_, z⟩ | z
      · exact z.elim
      · exact n1 b z
  rw [hbody]
  have hb : ∀ (W : WX) (pn : List (Addr × Obj)) (xe : Value → Shared → Prop), Takes (X.tr pn xe) W → PassesOwn (model X.prog X.w) X.A X.env xe → PSs (X.tr pn xe) bd (fun D σ H => ∀ pn xe, Takes (X.tr pn xe) W → WB (X.tr pn xe) bd D σ H) :=
    fun W pn xe tk _ => ⟨fun pins s σ H D I h => WB.pss.run pins s σ H D I (h pn xe tk)⟩
  refine ⟨_, pss_cons (ps_try_as (i := d.ei) (n := n) (c := cv) (ts := ts X) (Wout := Wk E) hsk hfr (by rw [cx.eN]; exact cx.nd) (by rw [cx.eN]; exact hi) (by show X.env.scope.names.lookup n = _; rw [cx.esc]; exact hln) ⟨cx.gl hgl, (gl_of hgl).2.1, .inl (by rw [cx.emg]; exact hmc)⟩ cx.tk hb (fun a oe cls dd pn hz hf => hsu X E cx a oe cls dd pn hz hf)) WB.pss, ?_⟩
  intro pn xe tk
  have cx' : CxOk P w K mg base k d.names (defScope st) _ (X.tr pn xe) := ⟨cx.eP, cx.ew, cx.eK, cx.emg, cx.ebase, cx.eN, cx.nd, cx.esc, cx.calm, cx.room, tk⟩
  refine stB (Wn := Wn) T cx' d.body hst hB (d.start ss) F H (start d.names vs) (fun i => vs[i]?) fp _ S0 ?_
  cases eo : exc Φ Wn d.body (d.start ss) with
  | no => rw [eo] at ans; exact ans
  | ex x =>
    rw [eo] at ans
    dsimp only at ans
    split at ans
    case isFalse => exact (ans : False).elim
    rename_i hcl
    cases ea : d.ans x ss with
    | none => rw [ea] at ans; exact (ans : False).elim
    | some r =>
      rw [ea] at ans
      intro cls dd F1 H1 st1 sub1 er
      refine ⟨true, by rw [cx.eK]; exact hex _ _ _ _ _ er hcl, fun _ a ha => ?_, fun z => by cases z⟩
      refine hts X E cx x ss vs F1 H1 cls dd a r _ er hcl ea sub1 lv ls (fun i s v e ev => slots st1.sub i s v e ev (A1 := fun _ => none1)) fun v' hv' => ?_
      exact fin (fp1 := fun _ _ => False) (A1 := none1) ans sub1 (st1.weak (fun _ q => q) fun b q => by
        rcases q with ⟨_, z⟩ | z
        · exact z.elim
        · exact .inl z) hv' (fun _ z => z.elim)
  | ok f env1 =>
    rw [eo] at ans
    cases f with
    | brk => exact (ans : False).elim
    | cnt => exact (ans : False).elim
    | ret r => exact fun v F1 H1 fp1 A1 S1 st r1 n1 ap => fin ans S1.sub st r1 n1
    | nx =>
      dsimp only at ans
      intro F1 H1 fp1 S1 st1
      refine sB (Wn := Wn) T cx Lx hpo d.after hA env1 F1 H1 (start d.names vs) (fun i => vs[i]?) fp1 _ S1 ?_
      cases e2 : exc Φ Wn d.after env1 with
      | no => rw [e2] at ans; exact (ans : False).elim
      | ex x => rw [e2] at ans; exact (ans : False).elim
      | ok f2 env2 =>
        rw [e2] at ans
        cases f2 with
        | nx => exact (ans : False).elim
        | brk => exact (ans : False).elim
        | cnt => exact (ans : False).elim
        | ret r => exact fun v σ' F2 H2 fp2 A2 S2 st r2 n2 ap => fin ans S2.sub (st1.trans st) r2 n2
end
end Mi
end
section
set_option Elab.async false
set_option linter.all false
set_option maxRecDepth 100000
/-! a suite that asks the caught exception for its class and its field -/
namespace Mi
open PySem L2
section
variable {Φ : Calls} {Wn : Nat} {ER : Exn → Value → Option Addr → Hp → Hp → Prop} {P : Program} {w : World} {K : Frag} {mg : Str → Option Value} {base : Heap} {k : Nat} {C : Cfg} {N : List Str} {sc : Scope} {X : Cx} {W : WX}
variable {a D0 : Addr} {oe : Obj} {pn : List (Addr × Obj)} {σ : L2.St} {H : Hp} {i : Nat} {n x : Str} {dd : Option Addr} {d1 : Addr} {fs : List (Str × V)} {b : Bool} {p1 p2 p3 p4 : Pos}
theorem su_isOwn {Cn : Addr} {Q : VK} (cx : CxOk P w K mg base k N sc W X) (hmi : mg "isinstance" = none) (hgi : Mi.gl sc "isinstance" = true) (hgx : Mi.gl sc x = true) (hmx : mg x = some (.ref Cn)) (hN : N[i]? = some n) (hv : vis sc n = true)
    (EC : ExcC K D0) (hz : Zc (.ref D0) dd oe) (hf : ∃ vs, oe.data = .fields vs) (hk : PySem.W.kitOne K (.ref D0) (.ref Cn) = some b) (hs : σ[i]? = some (some (.ref a))) (hd : dd = some d1) (hh : H d1 = some (.xd fs)) (q : Q (.bl b) H) :
    WE (X.suite a ((a, oe) :: pn)) (.Call (.Name "isinstance" p1) [.Name n p2, .Name x p3] [] p4) σ H Q := by
  obtain ⟨v1, v2, v3⟩ := vis_of hv
  have e1 := cx.eK
  subst e1
  refine ⟨_, pe_callB (call_isX EC hz hf) (cx.gl hgi) (by show X.mg _ = none; rw [cx.emg]; exact hmi) (by decide +kernel) (pa_cons (pe_var (i := i) (by show X.N[i]? = _; rw [cx.eN]; exact hN) (by show Vis X.env.scope n; rw [cx.esc]; exact v1) v2 v3) (pa_cons (pe_glob (cx.gl hgx) (by show X.mg _ = _; rw [cx.emg]; exact hmx) (v := .ref Cn) rfl (gl_of hgx).2.1) pa_nil)), ?_⟩
  exact ⟨_, hs, _, _, b, d1, fs, rfl, hd, hh, fun u r => r, hk, q⟩
theorem su_isTy {t : String} {Q : VK} (cx : CxOk P w K mg base k N sc W X) (hmi : mg "isinstance" = none) (hgi : Mi.gl sc "isinstance" = true) (hgx : Mi.gl sc x = true) (hmx : mg x = none) (hbx : bootBuiltins x = some (.type t)) (hN : N[i]? = some n) (hv : vis sc n = true)
    (EC : ExcC K D0) (hz : Zc (.ref D0) dd oe) (hf : ∃ vs, oe.data = .fields vs) (hk : PySem.W.kitOne K (.ref D0) (.type t) = some b) (hs : σ[i]? = some (some (.ref a))) (hd : dd = some d1) (hh : H d1 = some (.xd fs)) (q : Q (.bl b) H) :
    WE (X.suite a ((a, oe) :: pn)) (.Call (.Name "isinstance" p1) [.Name n p2, .Name x p3] [] p4) σ H Q := by
  obtain ⟨v1, v2, v3⟩ := vis_of hv
  have e1 := cx.eK
  subst e1
  refine ⟨_, pe_callB (call_isX EC hz hf) (cx.gl hgi) (by show X.mg _ = none; rw [cx.emg]; exact hmi) (by decide +kernel) (pa_cons (pe_var (i := i) (by show X.N[i]? = _; rw [cx.eN]; exact hN) (by show Vis X.env.scope n; rw [cx.esc]; exact v1) v2 v3) (pa_cons (pe_bltn (cx.gl hgx) (by show X.mg _ = _; rw [cx.emg]; exact hmx) hbx (v := .ty t) rfl (gl_of hgx).2.2 (gl_of hgx).2.1) pa_nil)), ?_⟩
  exact ⟨_, hs, _, _, b, d1, fs, rfl, hd, hh, fun u r => r, hk, q⟩
theorem su_field {C0 fI cc cda : Addr} {nm at' pre qual : Str} {cls : Value} {v : V} {Q : VK} (cx : CxOk P w K mg base k N sc W X) (T : Ox.Txt P K mg nm at' pre qual C0 fI cc cda) (hdc : PySem.W.hasDictIn K C0 = true) (hN : N[i]? = some n) (hv : vis sc n = true)
    (hz : Zc cls dd oe) (hf : ∃ vs, oe.data = .fields vs) (hc : cls = .ref C0) (hb : ∀ en : PySem.Env, attributeBase (.Name n p2) at' en (eval (.Name n p2) en) = eval (.Name n p2) en) (hs : σ[i]? = some (some (.ref a))) (hd : dd = some d1) (hh : H d1 = some (.xd [(at', v)])) (q : Q v H) :
    WE (X.suite a ((a, oe) :: pn)) (.Attribute (.Name n p2) at' p3) σ H Q := by
  obtain ⟨v1, v2, v3⟩ := vis_of hv
  have e1 := cx.eK
  subst e1
  refine ⟨_, pe_byX T hdc hz hf (pe_var (i := i) (by show X.N[i]? = _; rw [cx.eN]; exact hN) (by show Vis X.env.scope n; rw [cx.esc]; exact v1) v2 v3) (hb _), ?_⟩
  exact ⟨_, hs, rfl, hc, d1, v, hd, hh, q⟩
end
end Mi
end
section
set_option Elab.async false
set_option linter.all false
set_option maxRecDepth 1000000
namespace K81
open PySem L2 Mi
/-- look_names, call 0, the top's statement 7 -/
def flook_names : Fd where
  names := ["columns", "names", "name"]
  np := 2
  body := (.seq (.for_ (.nm 2) (.seq (.var 1)) (.seq (.ifs (.tst (.cmp .notin (.var 2) (.var 0))) (.seq (.raise 0 [(.var 2)])
      .skip) .skip)
    .skip))
  .skip)
/-- look_rules, call 1, the top's statement 8 -/
def flook_rules : Fd where
  names := ["columns", "rules", "left", "right"]
  np := 2
  body := (.seq (.for_ (.tp [(.nm 2), (.nm 3)]) (.seq (.var 1)) (.seq (.expr (.call 0 [(.var 0), (.var 2)]))
    (.seq (.expr (.call 0 [(.var 0), (.var 3)]))
    .skip)))
  .skip)
/-- all_in, call 2, the top's statement 9 -/
def fall_in : Fd where
  names := ["names", "known", "name"]
  np := 2
  body := (.seq (.ret (.blt .all [(.lcp [("name", 2)] (.nm 2) (.seq (.var 0)) none (.cmp .isin (.var 2) (.var 1)))]))
  .skip)
/-- reached, call 3, the top's statement 10 -/
def freached : Fd where
  names := ["rules", "left", "known", "used", "grown", "name", "at", "needed", "added"]
  np := 2
  body := (.seq (.set 2 (.dcp [("name", 5)] (.nm 5) (.seq (.var 1)) none (.var 5) (.cst (.bl true))))
  (.seq (.set 3 (.lst 0 []))
  (.seq (.set 4 (.cst (.bl true)))
  (.seq (.whl (.tst (.var 4)) (.seq (.set 4 (.cst (.bl false)))
    (.seq (.for_ (.tp [(.nm 6), (.tp [(.nm 7), (.nm 8)])]) (.enm (.var 0)) (.seq (.ifs (.and (.tst (.call 2 [(.var 7), (.var 2)])) (.one (.not (.tst (.call 2 [(.var 8), (.var 2)]))))) (.seq (.expr (.mut .app 3 [(.var 6)]))
        (.seq (.set 4 (.cst (.bl true)))
        (.seq (.for_ (.nm 5) (.seq (.var 8)) (.seq (.sidx 2 (.var 5) (.cst (.bl true)))
          .skip))
        .skip))) .skip)
      .skip))
    .skip)))
  (.seq (.ret (.tup 1 [(.mv 2), (.mv 3)]))
  .skip)))))
/-- keeps, call 4, the top's statement 11 -/
def fkeeps : Fd where
  names := ["columns", "rows", "rule", "places", "found", "row", "left", "right", "key", "texts", "at", "name"]
  np := 3
  body := (.seq (.expr (.call 1 [(.var 0), (.lst 0 [(.var 2)])]))
  (.seq (.set 3 (.dcp [("at", 10), ("name", 11)] (.tp [(.nm 10), (.nm 11)]) (.enm (.var 0)) none (.var 11) (.var 10)))
  (.seq (.unp (.tp [(.nm 6), (.nm 7)]) (.var 2))
  (.seq (.set 4 .dt0)
  (.seq (.for_ (.nm 5) (.seq (.var 1)) (.seq (.set 8 (.blt .tuple [(.lcp [("name", 11)] (.nm 11) (.seq (.var 6)) none (.idx (.var 5) (.idx (.var 3) (.var 11))))]))
    (.seq (.set 9 (.blt .tuple [(.lcp [("name", 11)] (.nm 11) (.seq (.var 7)) none (.idx (.var 5) (.idx (.var 3) (.var 11))))]))
    (.seq (.ifs (.tst (.cmp .ne (.mut .setd 4 [(.var 8), (.var 9)]) (.var 9))) (.seq (.ret (.cst (.bl false)))
      .skip) .skip)
    .skip))))
  (.seq (.ret (.cst (.bl true)))
  .skip))))))
/-- closure, call 5, the top's statement 12 -/
def fclosure : Fd where
  names := ["columns", "rules", "left", "known", "name"]
  np := 3
  body := (.seq (.expr (.call 1 [(.var 0), (.var 1)]))
  (.seq (.expr (.call 0 [(.var 0), (.var 2)]))
  (.seq (.set 3 (.idx (.call 3 [(.var 1), (.var 2)]) (.cst (.int 0))))
  (.seq (.ret (.lcp [("name", 4)] (.nm 4) (.seq (.var 0)) (some (.tst (.cmp .isin (.var 4) (.var 3)))) (.var 4)))
  .skip))))
/-- follows, call 6, the top's statement 13 -/
def ffollows : Fd where
  names := ["columns", "rules", "rule"]
  np := 3
  body := (.seq (.expr (.call 1 [(.var 0), (.var 1)]))
  (.seq (.expr (.call 1 [(.var 0), (.lst 0 [(.var 2)])]))
  (.seq (.ret (.call 2 [(.idx (.var 2) (.cst (.int 1))), (.idx (.call 3 [(.var 1), (.idx (.var 2) (.cst (.int 0)))]) (.cst (.int 0)))]))
  .skip)))
/-- derivation, call 7, the top's statement 14 -/
def fderivation : Fd where
  names := ["columns", "rules", "rule", "known", "used"]
  np := 3
  body := (.seq (.expr (.call 1 [(.var 0), (.var 1)]))
  (.seq (.expr (.call 1 [(.var 0), (.lst 0 [(.var 2)])]))
  (.seq (.unp (.tp [(.nm 3), (.nm 4)]) (.call 3 [(.var 1), (.idx (.var 2) (.cst (.int 0)))]))
  (.seq (.ifs (.not (.tst (.call 2 [(.idx (.var 2) (.cst (.int 1))), (.var 3)]))) (.seq (.ret (.cst .non))
    .skip) .skip)
  (.seq (.ret (.var 4))
  .skip)))))
/-- is_derivation, call 8, the top's statement 15 -/
def fis_derivation : Fd where
  names := ["columns", "rules", "rule", "paper", "known", "at", "name", "needed", "added"]
  np := 4
  body := (.seq (.expr (.call 1 [(.var 0), (.var 1)]))
  (.seq (.expr (.call 1 [(.var 0), (.lst 0 [(.var 2)])]))
  (.seq (.ifs (.not (.tst (.isi ["list", "tuple"] (.var 3)))) (.seq (.ret (.cst (.bl false)))
    .skip) .skip)
  (.seq (.set 4 (.dcp [("name", 6)] (.nm 6) (.seq (.idx (.var 2) (.cst (.int 0)))) none (.var 6) (.cst (.bl true))))
  (.seq (.for_ (.nm 5) (.seq (.var 3)) (.seq (.ifs (.or (.tst (.isi ["bool"] (.var 5))) (.or (.not (.tst (.isi ["int"] (.var 5)))) (.one (.not (.tst (.chn .le .lt (.cst (.int 0)) (.var 5) (.blt .len [(.var 1)]))))))) (.seq (.ret (.cst (.bl false)))
      .skip) .skip)
    (.seq (.unp (.tp [(.nm 7), (.nm 8)]) (.idx (.var 1) (.var 5)))
    (.seq (.ifs (.not (.tst (.call 2 [(.var 7), (.var 4)]))) (.seq (.ret (.cst (.bl false)))
      .skip) .skip)
    (.seq (.for_ (.nm 6) (.seq (.var 8)) (.seq (.sidx 4 (.var 6) (.cst (.bl true)))
      .skip))
    .skip)))))
  (.seq (.ret (.call 2 [(.idx (.var 2) (.cst (.int 1))), (.var 4)]))
  .skip))))))
/-- two_rows, call 9, the top's statement 16 -/
def ftwo_rows : Fd where
  names := ["columns", "rules", "rule", "known", "name"]
  np := 3
  body := (.seq (.expr (.call 1 [(.var 0), (.var 1)]))
  (.seq (.expr (.call 1 [(.var 0), (.lst 0 [(.var 2)])]))
  (.seq (.set 3 (.idx (.call 3 [(.var 1), (.idx (.var 2) (.cst (.int 0)))]) (.cst (.int 0))))
  (.seq (.ifs (.tst (.call 2 [(.idx (.var 2) (.cst (.int 1))), (.var 3)])) (.seq (.ret (.cst .non))
    .skip) .skip)
  (.seq (.ret (.lst 0 [(.blt .tuple [(.lcp [("name", 4)] (.nm 4) (.seq (.var 0)) none (.cst (.str "a")))]), (.blt .tuple [(.lcp [("name", 4)] (.nm 4) (.seq (.var 0)) none (.ifx (.tst (.cmp .isin (.var 4) (.var 3))) (.cst (.str "a")) (.cst (.str "b"))))])]))
  .skip)))))
/-- _law_digits, call 10, the top's statement 18 -/
def f_law_digits : Fd where
  names := ["script", "row", "place", "cell", "rest", "many", "k"]
  np := 1
  body := (.seq (.set 1 (.lst 0 []))
  (.seq (.set 2 (.cst (.int 0)))
  (.seq (.for_ (.nm 3) (.seq (.slc (.var 0) none (some (.cst (.int 63))))) (.seq (.set 4 (.var 3))
    (.seq (.set 5 (.cst (.int 60)))
    (.seq (.ifs (.tst (.cmp .lt (.var 3) (.bin .pow (.cst (.int 10)) (.cst (.int 18))))) (.seq (.set 4 (.bin .mod (.blt .int [(.bin .mul (.blt .int [(.blt .abs [(.var 3)])]) (.cst (.int 48271)))]) (.cst (.int 2147483647))))
      (.seq (.set 4 (.bin .mod (.blt .int [(.bin .add (.var 4) (.bin .mul (.cst (.int 69621)) (.var 2)))]) (.cst (.int 1000003))))
      (.seq (.set 5 (.cst (.int 6)))
      .skip))) .skip)
    (.seq (.for_ (.nm 6) (.rng1 (.var 5)) (.seq (.ifs (.or (.tst (.cmp .eq (.var 5) (.cst (.int 6)))) (.one (.tst (.cmp .gt (.var 4) (.cst (.int 0)))))) (.seq (.expr (.mut .app 1 [(.bin .mod (.blt .int [(.var 4)]) (.cst (.int 10)))]))
        (.seq (.set 4 (.bin .fdv (.var 4) (.cst (.int 10))))
        .skip)) .skip)
      .skip))
    (.seq (.set 2 (.bin .add (.var 2) (.cst (.int 1))))
    .skip))))))
  (.seq (.ret (.lst 0 [(.var 1), (.cst (.int 0))]))
  .skip))))
/-- _law_take, call 11, the top's statement 19 -/
def f_law_take : Fd where
  names := ["state", "many", "place", "wide", "number", "k"]
  np := 2
  body := (.seq (.set 2 (.idx (.var 0) (.cst (.int 1))))
  (.seq (.set 3 (.bin .add (.bin .add (.cst (.int 1)) (.blt .int [(.cmp .gt (.var 1) (.cst (.int 10)))])) (.blt .int [(.cmp .gt (.var 1) (.cst (.int 100)))])))
  (.seq (.sidx 0 (.cst (.int 1)) (.bin .add (.var 2) (.var 3)))
  (.seq (.ifs (.tst (.cmp .gt (.bin .add (.var 2) (.var 3)) (.blt .len [(.idx (.var 0) (.cst (.int 0)))]))) (.seq (.ret (.bin .mod (.blt .int [(.bin .add (.bin .mul (.cst (.int 7)) (.var 2)) (.cst (.int 3)))]) (.var 1)))
    .skip) .skip)
  (.seq (.set 4 (.cst (.int 0)))
  (.seq (.for_ (.nm 5) (.rng1 (.var 3)) (.seq (.set 4 (.bin .add (.bin .mul (.cst (.int 10)) (.var 4)) (.idx (.idx (.var 0) (.cst (.int 0))) (.bin .add (.var 2) (.var 5)))))
    .skip))
  (.seq (.ret (.bin .mod (.blt .int [(.var 4)]) (.var 1)))
  .skip)))))))
/-- _law_new_names, call 12, the top's statement 20 -/
def f_law_new_names : Fd where
  names := ["state", "many", "letters", "at", "rest", "names", "k", "sign", "name"]
  np := 2
  body := (.seq (.set 2 (.cst (.str "abcdefghijklmnopqrstuvwxyz")))
  (.seq (.set 3 (.call 11 [(.var 0), (.cst (.int 100))]))
  (.seq (.set 4 (.bin .mul (.idx (.var 2) (.bin .mod (.blt .int [(.var 3)]) (.cst (.int 26)))) (.blt .int [(.bin .mod (.blt .int [(.var 3)]) (.cst (.int 3)))])))
  (.seq (.set 5 (.lst 0 []))
  (.seq (.for_ (.nm 6) (.rng1 (.var 1)) (.seq (.set 7 (.idx (.var 2) (.bin .mod (.blt .int [(.bin .add (.bin .add (.var 3) (.bin .mul (.cst (.int 7)) (.var 6))) (.cst (.int 3)))]) (.cst (.int 26)))))
    (.seq (.set 8 (.idx (.lst 0 [(.bin .add (.var 7) (.var 4)), (.bin .add (.var 4) (.var 7))]) (.bin .mod (.blt .int [(.bin .fdv (.var 3) (.cst (.int 4)))]) (.cst (.int 2)))))
    (.seq (.expr (.mut .app 5 [(.bin .add (.var 8) (.bin .mul (.var 7) (.blt .int [(.and (.cmp .gt (.var 3) (.cst (.int 60))) (.one (.cmp .eq (.bin .mod (.blt .int [(.var 6)]) (.cst (.int 2))) (.cst (.int 1)))))])))]))
    .skip))))
  (.seq (.ret (.var 5))
  .skip))))))
/-- _law_drawn_columns, call 13, the top's statement 21 -/
def f_law_drawn_columns : Fd where
  names := ["state", "many"]
  np := 1
  body := (.seq (.set 1 (.call 11 [(.var 0), (.cst (.int 8))]))
  (.seq (.ifs (.tst (.cmp .eq (.var 1) (.cst (.int 7)))) (.seq (.set 1 (.bin .add (.cst (.int 7)) (.call 11 [(.var 0), (.cst (.int 6))])))
    .skip) .skip)
  (.seq (.ret (.call 12 [(.var 0), (.var 1)]))
  .skip)))
/-- _law_pick, call 14, the top's statement 22 -/
def f_law_pick : Fd where
  names := ["state", "columns", "most", "told", "k"]
  np := 3
  body := (.seq (.set 3 (.lst 0 []))
  (.seq (.for_ (.nm 4) (.rng1 (.call 11 [(.var 0), (.bin .add (.var 2) (.cst (.int 1)))])) (.seq (.ifs (.tst (.cmp .gt (.blt .len [(.var 1)]) (.cst (.int 0)))) (.seq (.expr (.mut .app 3 [(.idx (.var 1) (.call 11 [(.var 0), (.blt .len [(.var 1)])]))]))
      .skip) .skip)
    .skip))
  (.seq (.ret (.blt .tuple [(.var 3)]))
  .skip)))
/-- _law_drawn_rules, call 15, the top's statement 23 -/
def f_law_drawn_rules : Fd where
  names := ["state", "columns", "many", "chain", "rules", "k", "at", "left"]
  np := 2
  body := (.seq (.set 2 (.call 11 [(.var 0), (.cst (.int 7))]))
  (.seq (.ifs (.tst (.cmp .gt (.blt .len [(.var 1)]) (.cst (.int 6)))) (.seq (.set 2 (.bin .add (.var 2) (.cst (.int 6))))
    .skip) .skip)
  (.seq (.set 3 (.and (.cmp .eq (.call 11 [(.var 0), (.cst (.int 2))]) (.cst (.int 1))) (.one (.cmp .gt (.blt .len [(.var 1)]) (.cst (.int 1))))))
  (.seq (.set 4 (.lst 0 []))
  (.seq (.for_ (.nm 5) (.rng1 (.var 2)) (.seq (.ifs (.tst (.var 3)) (.seq (.set 6 (.bin .mod (.blt .int [(.bin .sub (.bin .sub (.blt .len [(.var 1)]) (.cst (.int 2))) (.var 5))]) (.bin .sub (.blt .len [(.var 1)]) (.cst (.int 1)))))
      (.seq (.expr (.mut .app 4 [(.tup 0 [(.tup 0 [(.idx (.var 1) (.var 6))]), (.tup 0 [(.idx (.var 1) (.bin .add (.var 6) (.cst (.int 1))))])])]))
      .skip)) (.seq (.set 7 (.call 14 [(.var 0), (.var 1), (.cst (.int 2))]))
      (.seq (.expr (.mut .app 4 [(.tup 0 [(.var 7), (.call 14 [(.var 0), (.var 1), (.cst (.int 3))])])]))
      .skip)))
    .skip))
  (.seq (.ret (.var 4))
  .skip))))))
/-- _law_lacks, call 16, the top's statement 24 -/
def f_law_lacks : Fd where
  names := ["some", "known", "one"]
  np := 2
  body := (.seq (.ret (.lcp [("one", 2)] (.nm 2) (.seq (.var 0)) (some (.tst (.cmp .notin (.var 2) (.var 1)))) (.var 2)))
  .skip)
/-- _law_reach, call 17, the top's statement 25 -/
def f_law_reach : Fd where
  names := ["columns", "rules", "left", "known", "k", "rule", "one"]
  np := 3
  body := (.seq (.set 3 (.lcp [("one", 6)] (.nm 6) (.seq (.var 0)) (some (.tst (.cmp .isin (.var 6) (.var 2)))) (.var 6)))
  (.seq (.for_ (.nm 4) (.rng1 (.bin .add (.blt .len [(.var 0)]) (.cst (.int 1)))) (.seq (.for_ (.nm 5) (.seq (.var 1)) (.seq (.ifs (.tst (.cmp .eq (.call 16 [(.idx (.var 5) (.cst (.int 0))), (.var 3)]) (.lst 0 []))) (.seq (.set 3 (.bin .add (.var 3) (.call 16 [(.idx (.var 5) (.cst (.int 1))), (.var 3)])))
        .skip) .skip)
      .skip))
    .skip))
  (.seq (.ret (.lcp [("one", 6)] (.nm 6) (.seq (.var 0)) (some (.tst (.cmp .isin (.var 6) (.var 3)))) (.var 6)))
  .skip)))
/-- _law_asked, call 18, the top's statement 26 -/
def f_law_asked : Fd where
  names := ["state", "columns", "rules", "left", "known", "others", "right", "told", "strange"]
  np := 3
  body := (.seq (.set 3 (.call 14 [(.var 0), (.var 1), (.cst (.int 3))]))
  (.seq (.set 4 (.call 17 [(.var 1), (.var 2), (.var 3)]))
  (.seq (.set 5 (.call 16 [(.var 1), (.var 4)]))
  (.seq (.set 6 (.call 14 [(.var 0), (.var 1), (.cst (.int 3))]))
  (.seq (.set 7 (.lst 0 [(.tup 0 [(.call 14 [(.var 0), (.var 1), (.cst (.int 3))]), (.var 6)])]))
  (.seq (.expr (.mut .app 7 [(.tup 0 [(.var 3), (.blt .tuple [(.slc (.var 4) (some (.call 11 [(.var 0), (.cst (.int 3))])) none)])])]))
  (.seq (.ifs (.tst (.cmp .gt (.blt .len [(.var 5)]) (.cst (.int 0)))) (.seq (.set 8 (.idx (.var 5) (.call 11 [(.var 0), (.blt .len [(.var 5)])])))
    (.seq (.expr (.mut .app 7 [(.tup 0 [(.var 3), (.bin .add (.blt .tuple [(.slc (.var 4) none (some (.call 11 [(.var 0), (.cst (.int 4))])))]) (.tup 0 [(.var 8)]))])]))
    .skip)) .skip)
  (.seq (.ifs (.tst (.cmp .gt (.blt .len [(.var 2)]) (.cst (.int 0)))) (.seq (.expr (.mut .app 7 [(.idx (.var 2) (.call 11 [(.var 0), (.blt .len [(.var 2)])]))]))
    .skip) .skip)
  (.seq (.ret (.var 7))
  .skip)))))))))
/-- _law_walk, call 19, the top's statement 27 -/
def f_law_walk : Fd where
  names := ["rules", "left", "known", "paper", "k", "at"]
  np := 2
  body := (.seq (.set 2 (.blt .list [(.var 1)]))
  (.seq (.set 3 (.lst 0 []))
  (.seq (.for_ (.nm 4) (.rng1 (.blt .len [(.var 0)])) (.seq (.for_ (.nm 5) (.rng1 (.blt .len [(.var 0)])) (.seq (.ifs (.and (.tst (.cmp .notin (.var 5) (.var 3))) (.one (.tst (.cmp .eq (.call 16 [(.idx (.idx (.var 0) (.var 5)) (.cst (.int 0))), (.var 2)]) (.lst 0 []))))) (.seq (.expr (.mut .app 3 [(.var 5)]))
        (.seq (.set 2 (.bin .add (.var 2) (.blt .list [(.idx (.idx (.var 0) (.var 5)) (.cst (.int 1)))])))
        .skip)) .skip)
      .skip))
    .skip))
  (.seq (.ret (.var 3))
  .skip))))
/-- _law_derives, call 20, the top's statement 28 -/
def f_law_derives : Fd where
  names := ["rules", "rule", "paper", "known", "at"]
  np := 3
  body := (.seq (.set 3 (.blt .list [(.idx (.var 1) (.cst (.int 0)))]))
  (.seq (.for_ (.nm 4) (.seq (.var 2)) (.seq (.ifs (.or (.tst (.cmp .lt (.var 4) (.cst (.int 0)))) (.one (.tst (.cmp .ge (.var 4) (.blt .len [(.var 0)]))))) (.seq (.ret (.cst (.bl false)))
      .skip) .skip)
    (.seq (.ifs (.tst (.cmp .ne (.call 16 [(.idx (.idx (.var 0) (.var 4)) (.cst (.int 0))), (.var 3)]) (.lst 0 []))) (.seq (.ret (.cst (.bl false)))
      .skip) .skip)
    (.seq (.set 3 (.bin .add (.var 3) (.blt .list [(.idx (.idx (.var 0) (.var 4)) (.cst (.int 1)))])))
    .skip))))
  (.seq (.ret (.cmp .eq (.call 16 [(.idx (.var 1) (.cst (.int 1))), (.var 3)]) (.lst 0 [])))
  .skip)))
/-- _law_papers, call 21, the top's statement 29 -/
def f_law_papers : Fd where
  names := ["state", "many", "walk", "drawn", "at", "told", "more", "k"]
  np := 3
  body := (.seq (.set 3 (.lcp [("k", 7)] (.nm 7) (.rng1 (.call 11 [(.var 0), (.cst (.int 5))])) none (.bin .sub (.call 11 [(.var 0), (.bin .add (.var 1) (.cst (.int 2)))]) (.cst (.int 1)))))
  (.seq (.set 4 (.call 11 [(.var 0), (.bin .add (.blt .len [(.var 2)]) (.cst (.int 1)))]))
  (.seq (.set 5 (.lst 0 [(.lst 0 []), (.blt .list [(.var 2)]), (.var 3), (.bin .add (.slc (.var 2) none (some (.var 4))) (.slc (.var 2) (some (.bin .add (.var 4) (.cst (.int 1)))) none))]))
  (.seq (.set 6 (.bin .sub (.call 11 [(.var 0), (.bin .add (.var 1) (.cst (.int 2)))]) (.cst (.int 1))))
  (.seq (.expr (.mut .app 5 [(.bin .add (.bin .add (.slc (.var 2) none (some (.var 4))) (.lst 0 [(.var 6)])) (.slc (.var 2) (some (.var 4)) none))]))
  (.seq (.expr (.mut .app 5 [(.blt .listrev [(.var 2)])]))
  (.seq (.ret (.var 5))
  .skip)))))))
/-- _law_is_paper, call 22, the top's statement 30 -/
def f_law_is_paper : Fd where
  names := ["rules", "rule", "paper", "at"]
  np := 3
  body := (.seq (.ifs (.not (.tst (.isi ["list"] (.var 2)))) (.seq (.ret (.cst (.bl false)))
    .skip) .skip)
  (.seq (.for_ (.nm 3) (.seq (.var 2)) (.seq (.ifs (.or (.not (.tst (.isi ["int"] (.var 3)))) (.one (.tst (.isi ["bool"] (.var 3))))) (.seq (.ret (.cst (.bl false)))
      .skip) .skip)
    .skip))
  (.seq (.ret (.call 20 [(.var 0), (.var 1), (.var 2)]))
  .skip)))
/-- _law_kept, call 23, the top's statement 31 -/
def f_law_kept : Fd where
  names := ["columns", "rows", "rule", "left", "right", "first", "other", "one", "apart", "unlike", "at"]
  np := 3
  body := (.seq (.set 3 (.lcp [("one", 7)] (.nm 7) (.seq (.idx (.var 2) (.cst (.int 0)))) none (.met .index (.var 0) [(.var 7)])))
  (.seq (.set 4 (.lcp [("one", 7)] (.nm 7) (.seq (.idx (.var 2) (.cst (.int 1)))) none (.met .index (.var 0) [(.var 7)])))
  (.seq (.for_ (.nm 5) (.seq (.var 1)) (.seq (.for_ (.nm 6) (.seq (.var 1)) (.seq (.set 8 (.lcp [("at", 10)] (.nm 10) (.seq (.var 3)) (some (.tst (.cmp .ne (.idx (.var 5) (.var 10)) (.idx (.var 6) (.var 10))))) (.var 10)))
      (.seq (.set 9 (.lcp [("at", 10)] (.nm 10) (.seq (.var 4)) (some (.tst (.cmp .ne (.idx (.var 5) (.var 10)) (.idx (.var 6) (.var 10))))) (.var 10)))
      (.seq (.ifs (.and (.tst (.cmp .eq (.var 8) (.lst 0 []))) (.one (.tst (.cmp .ne (.var 9) (.lst 0 []))))) (.seq (.ret (.cst (.bl false)))
        .skip) .skip)
      .skip))))
    .skip))
  (.seq (.ret (.cst (.bl true)))
  .skip))))
/-- _law_is_two, call 24, the top's statement 32 -/
def f_law_is_two : Fd where
  names := ["columns", "rows", "row", "one"]
  np := 2
  body := (.seq (.ifs (.or (.not (.tst (.isi ["list"] (.var 1)))) (.one (.tst (.cmp .ne (.blt .len [(.var 1)]) (.cst (.int 2)))))) (.seq (.ret (.cst (.bl false)))
    .skip) .skip)
  (.seq (.for_ (.nm 2) (.seq (.var 1)) (.seq (.ifs (.or (.not (.tst (.isi ["tuple"] (.var 2)))) (.one (.tst (.cmp .ne (.blt .len [(.var 2)]) (.blt .len [(.var 0)]))))) (.seq (.ret (.cst (.bl false)))
      .skip) .skip)
    (.seq (.for_ (.nm 3) (.seq (.var 2)) (.seq (.ifs (.or (.not (.tst (.isi ["str"] (.var 3)))) (.one (.tst (.cmp .notin (.var 3) (.tup 0 [(.cst (.str "a")), (.cst (.str "b"))]))))) (.seq (.ret (.cst (.bl false)))
        .skip) .skip)
      .skip))
    .skip)))
  (.seq (.ret (.cst (.bl true)))
  .skip)))
/-- _law_closed, call 25, the top's statement 33 -/
def f_law_closed : Fd where
  names := ["columns", "rules", "left", "due", "some", "given", "handed", "told", "again"]
  np := 3
  body := (.seq (.set 3 (.call 17 [(.var 0), (.var 1), (.var 2)]))
  (.seq (.set 4 (.blt .list [(.var 0)]))
  (.seq (.set 5 (.blt .list [(.var 1)]))
  (.seq (.set 6 (.blt .list [(.var 2)]))
  (.seq (.set 7 (.call 5 [(.var 4), (.var 5), (.var 6)]))
  (.seq (.ifs (.or (.not (.tst (.isi ["list"] (.var 7)))) (.one (.tst (.cmp .ne (.var 7) (.var 3))))) (.seq (.ret (.cst (.bl false)))
    .skip) .skip)
  (.seq (.expr (.mut .app 7 [(.cst (.str "a"))]))
  (.seq (.ifs (.or (.tst (.cmp .ne (.var 4) (.var 0))) (.or (.tst (.cmp .ne (.var 5) (.var 1))) (.one (.tst (.cmp .ne (.var 6) (.blt .list [(.var 2)])))))) (.seq (.ret (.cst (.bl false)))
    .skip) .skip)
  (.seq (.expr (.mut .app 6 [(.cst (.str "a"))]))
  (.seq (.set 8 (.call 5 [(.blt .tuple [(.var 0)]), (.blt .tuple [(.var 1)]), (.blt .tuple [(.var 2)])]))
  (.seq (.ret (.and (.isi ["list"] (.var 8)) (.one (.cmp .eq (.var 8) (.var 3)))))
  .skip)))))))))))
/-- _law_derived, call 26, the top's statement 34 -/
def f_law_derived : Fd where
  names := ["state", "columns", "rules", "rule", "due", "some", "given", "told", "k", "paper", "handed"]
  np := 4
  body := (.seq (.set 4 (.cmp .eq (.call 16 [(.idx (.var 3) (.cst (.int 1))), (.call 17 [(.var 1), (.var 2), (.idx (.var 3) (.cst (.int 0)))])]) (.lst 0 [])))
  (.seq (.set 5 (.blt .list [(.var 1)]))
  (.seq (.set 6 (.blt .list [(.var 2)]))
  (.seq (.set 7 (.call 6 [(.var 5), (.var 6), (.var 3)]))
  (.seq (.ifs (.or (.not (.tst (.isi ["bool"] (.var 7)))) (.one (.tst (.cmp .ne (.var 7) (.var 4))))) (.seq (.ret (.cst (.bl false)))
    .skip) .skip)
  (.seq (.for_ (.nm 8) (.rng1 (.cst (.int 2))) (.seq (.set 9 (.call 7 [(.var 5), (.var 6), (.var 3)]))
    (.seq (.ifs (.and (.not (.tst (.var 4))) (.one (.tst (.cmp .isnot (.var 9) (.cst .non))))) (.seq (.ret (.cst (.bl false)))
      .skip) .skip)
    (.seq (.ifs (.tst (.var 4)) (.seq (.ifs (.not (.tst (.call 22 [(.var 2), (.var 3), (.var 9)]))) (.seq (.ret (.cst (.bl false)))
        .skip) .skip)
      (.seq (.ifs (.tst (.cmp .isnot (.call 8 [(.var 5), (.var 6), (.var 3), (.blt .list [(.var 9)])]) (.cst (.bl true)))) (.seq (.ret (.cst (.bl false)))
        .skip) .skip)
      (.seq (.expr (.mut .app 9 [(.cst (.int 0))]))
      .skip))) .skip)
    .skip))))
  (.seq (.for_ (.nm 9) (.seq (.call 21 [(.var 0), (.blt .len [(.var 2)]), (.call 19 [(.var 2), (.idx (.var 3) (.cst (.int 0)))])])) (.seq (.set 10 (.blt .list [(.var 9)]))
    (.seq (.set 7 (.call 8 [(.var 5), (.var 6), (.var 3), (.var 10)]))
    (.seq (.ifs (.or (.not (.tst (.isi ["bool"] (.var 7)))) (.one (.tst (.cmp .ne (.var 10) (.var 9))))) (.seq (.ret (.cst (.bl false)))
      .skip) .skip)
    (.seq (.ifs (.tst (.cmp .ne (.var 7) (.call 20 [(.var 2), (.var 3), (.var 9)]))) (.seq (.ret (.cst (.bl false)))
      .skip) .skip)
    .skip)))))
  (.seq (.ifs (.tst (.cmp .isnot (.call 8 [(.var 5), (.var 6), (.var 3), (.cst .non)]) (.cst (.bl false)))) (.seq (.ret (.cst (.bl false)))
    .skip) .skip)
  (.seq (.ret (.and (.cmp .eq (.var 5) (.var 1)) (.one (.cmp .eq (.var 6) (.var 2)))))
  .skip)))))))))
/-- _law_parted, call 27, the top's statement 35 -/
def f_law_parted : Fd where
  names := ["columns", "rules", "rule", "due", "some", "given", "k", "rows", "one"]
  np := 3
  body := (.seq (.set 3 (.cmp .eq (.call 16 [(.idx (.var 2) (.cst (.int 1))), (.call 17 [(.var 0), (.var 1), (.idx (.var 2) (.cst (.int 0)))])]) (.lst 0 [])))
  (.seq (.set 4 (.blt .list [(.var 0)]))
  (.seq (.set 5 (.blt .list [(.var 1)]))
  (.seq (.for_ (.nm 6) (.rng1 (.cst (.int 2))) (.seq (.set 7 (.call 9 [(.var 4), (.var 5), (.var 2)]))
    (.seq (.ifs (.and (.tst (.var 3)) (.one (.tst (.cmp .isnot (.var 7) (.cst .non))))) (.seq (.ret (.cst (.bl false)))
      .skip) .skip)
    (.seq (.ifs (.not (.tst (.var 3))) (.seq (.ifs (.or (.not (.tst (.call 24 [(.var 0), (.var 7)]))) (.one (.tst (.call 23 [(.var 0), (.var 7), (.var 2)])))) (.seq (.ret (.cst (.bl false)))
        .skip) .skip)
      (.seq (.for_ (.nm 8) (.seq (.var 1)) (.seq (.ifs (.not (.tst (.call 23 [(.var 0), (.var 7), (.var 8)]))) (.seq (.ret (.cst (.bl false)))
          .skip) .skip)
        .skip))
      (.seq (.ifs (.tst (.cmp .isnot (.call 4 [(.var 4), (.blt .list [(.var 7)]), (.var 2)]) (.cst (.bl false)))) (.seq (.ret (.cst (.bl false)))
        .skip) .skip)
      (.seq (.expr (.mut .app 7 [(.idx (.var 7) (.cst (.int 0)))]))
      .skip)))) .skip)
    .skip))))
  (.seq (.ret (.and (.cmp .eq (.var 4) (.var 0)) (.one (.cmp .eq (.var 5) (.var 1)))))
  .skip)))))
/-- _law_tables, call 28, the top's statement 36 -/
def f_law_tables : Fd where
  names := ["state", "columns", "rules", "asked", "pool", "rows", "k", "left", "known", "twins", "table", "rule", "handed", "told", "one"]
  np := 4
  body := (.seq (.set 4 (.bin .add (.lst 0 [(.cst (.str ""))]) (.call 12 [(.var 0), (.cst (.int 2))])))
  (.seq (.set 5 (.lst 0 []))
  (.seq (.for_ (.nm 6) (.rng1 (.call 11 [(.var 0), (.cst (.int 7))])) (.seq (.expr (.mut .app 5 [(.blt .tuple [(.lcp [("one", 14)] (.nm 14) (.seq (.var 1)) none (.idx (.var 4) (.call 11 [(.var 0), (.cst (.int 3))])))])]))
    .skip))
  (.seq (.set 7 (.idx (.idx (.var 3) (.call 11 [(.var 0), (.blt .len [(.var 3)])])) (.cst (.int 0))))
  (.seq (.set 8 (.call 17 [(.var 1), (.var 2), (.var 7)]))
  (.seq (.set 9 (.lst 0 [(.blt .tuple [(.lcp [("one", 14)] (.nm 14) (.seq (.var 1)) none (.idx (.var 4) (.cst (.int 1))))])]))
  (.seq (.expr (.mut .app 9 [(.blt .tuple [(.lcp [("one", 14)] (.nm 14) (.seq (.var 1)) none (.idx (.var 4) (.bin .add (.cst (.int 1)) (.blt .int [(.cmp .notin (.var 14) (.var 8))]))))])]))
  (.seq (.for_ (.nm 10) (.seq (.lst 0 [(.var 5), (.var 9)])) (.seq (.for_ (.nm 11) (.seq (.bin .add (.var 3) (.var 2))) (.seq (.set 12 (.blt .list [(.var 10)]))
      (.seq (.set 13 (.call 4 [(.blt .list [(.var 1)]), (.var 12), (.var 11)]))
      (.seq (.ifs (.or (.not (.tst (.isi ["bool"] (.var 13)))) (.one (.tst (.cmp .ne (.var 12) (.var 10))))) (.seq (.ret (.cst (.bl false)))
        .skip) .skip)
      (.seq (.ifs (.tst (.cmp .ne (.var 13) (.call 23 [(.var 1), (.var 10), (.var 11)]))) (.seq (.ret (.cst (.bl false)))
        .skip) .skip)
      .skip)))))
    .skip))
  (.seq (.ifs (.tst (.cmp .isnot (.call 4 [(.blt .list [(.var 1)]), (.lst 0 []), (.idx (.var 3) (.cst (.int 0)))]) (.cst (.bl true)))) (.seq (.ret (.cst (.bl false)))
    .skip) .skip)
  (.seq (.ret (.cmp .is (.call 4 [(.blt .tuple [(.var 1)]), (.blt .list [(.slc (.var 9) (some (.cst (.int 1))) none)]), (.idx (.var 3) (.cst (.int 0)))]) (.cst (.bl true))))
  .skip))))))))))
/-- _law_with, call 30, the top's statement 38 -/
def f_law_with : Fd where
  names := ["state", "some", "name", "at"]
  np := 3
  body := (.seq (.set 3 (.call 11 [(.var 0), (.bin .add (.blt .len [(.var 1)]) (.cst (.int 1)))]))
  (.seq (.ret (.bin .add (.bin .add (.slc (.var 1) none (some (.var 3))) (.tup 0 [(.var 2)])) (.slc (.var 1) (some (.var 3)) none)))
  .skip))
/-- _law_spoilt, call 31, the top's statement 39 -/
def f_law_spoilt : Fd where
  names := ["state", "rules", "rule", "at", "side", "bad", "one"]
  np := 3
  body := (.seq (.set 3 (.call 11 [(.var 0), (.bin .add (.blt .len [(.var 1)]) (.cst (.int 1)))]))
  (.seq (.set 4 (.call 11 [(.var 0), (.cst (.int 2))]))
  (.seq (.set 5 (.blt .list [(.var 1)]))
  (.seq (.set 6 (.var 2))
  (.seq (.ifs (.tst (.cmp .lt (.var 3) (.blt .len [(.var 1)]))) (.seq (.set 6 (.idx (.var 1) (.var 3)))
    .skip) .skip)
  (.seq (.ifs (.tst (.cmp .eq (.var 4) (.cst (.int 0)))) (.seq (.set 6 (.tup 0 [(.call 30 [(.var 0), (.idx (.var 6) (.cst (.int 0))), (.cst (.str "nowhere"))]), (.idx (.var 6) (.cst (.int 1)))]))
    .skip) (.seq (.set 6 (.tup 0 [(.idx (.var 6) (.cst (.int 0))), (.call 30 [(.var 0), (.idx (.var 6) (.cst (.int 1))), (.cst (.str "nowhere"))])]))
    .skip))
  (.seq (.ifs (.tst (.cmp .lt (.var 3) (.blt .len [(.var 1)]))) (.seq (.sidx 5 (.var 3) (.var 6))
    (.seq (.set 6 (.var 2))
    .skip)) .skip)
  (.seq (.ret (.tup 0 [(.var 5), (.tup 0 [(.idx (.var 6) (.cst (.int 0))), (.bin .add (.idx (.var 6) (.cst (.int 1))) (.tup 0 [(.cst (.str "nothere"))]))])]))
  .skip))))))))
/-- _law_refusals, call 32, the top's statement 40 -/
def f_law_refusals : Fd where
  names := ["state", "columns", "rules", "rule", "which", "bad", "spoilt", "names", "one", "strange"]
  np := 4
  body := (.seq (.unp (.tp [(.nm 5), (.nm 6)]) (.call 31 [(.var 0), (.var 2), (.var 3)]))
  (.seq (.for_ (.nm 4) (.rng1 (.cst (.int 6))) (.seq (.set 7 (.lst 0 []))
    (.seq (.for_ (.nm 8) (.seq (.var 5)) (.seq (.set 7 (.bin .add (.bin .add (.var 7) (.blt .list [(.idx (.var 8) (.cst (.int 0)))])) (.blt .list [(.idx (.var 8) (.cst (.int 1)))])))
      .skip))
    (.seq (.ifs (.tst (.cmp .eq (.var 4) (.cst (.int 0)))) (.seq (.set 7 (.lst 0 []))
      .skip) .skip)
    (.seq (.ifs (.tst (.cmp .ne (.var 4) (.cst (.int 1)))) (.seq (.set 7 (.bin .add (.var 7) (.blt .list [(.idx (.var 6) (.cst (.int 0)))])))
      .skip) .skip)
    (.seq (.set 7 (.bin .add (.var 7) (.blt .list [(.idx (.var 6) (.cst (.int 1)))])))
    (.seq (.set 9 (.call 16 [(.var 7), (.var 1)]))
    (.seq (.ifs (.not (.tst (.call 29 [(.var 4), (.var 1), (.var 5), (.var 6), (.idx (.var 9) (.cst (.int 0)))]))) (.seq (.ret (.cst (.bl false)))
      .skip) .skip)
    .skip))))))))
  (.seq (.ret (.cst (.bl true)))
  .skip)))
/-- law, call 33, the top's statement 41 -/
def flaw : Fd where
  names := ["script", "state", "columns", "rules", "asked", "rule"]
  np := 1
  body := (.seq (.set 1 (.call 10 [(.var 0)]))
  (.seq (.set 2 (.call 13 [(.var 1)]))
  (.seq (.set 3 (.call 15 [(.var 1), (.frz 2)]))
  (.seq (.set 4 (.call 18 [(.var 1), (.frz 2), (.frz 3)]))
  (.seq (.for_ (.nm 5) (.seq (.frz 4)) (.seq (.ifs (.not (.tst (.call 25 [(.frz 2), (.frz 3), (.idx (.var 5) (.cst (.int 0)))]))) (.seq (.ret (.cst (.bl false)))
      .skip) .skip)
    (.seq (.ifs (.not (.tst (.call 25 [(.frz 2), (.frz 3), (.idx (.var 5) (.cst (.int 1)))]))) (.seq (.ret (.cst (.bl false)))
      .skip) .skip)
    (.seq (.ifs (.not (.tst (.call 26 [(.var 1), (.frz 2), (.frz 3), (.var 5)]))) (.seq (.ret (.cst (.bl false)))
      .skip) .skip)
    (.seq (.ifs (.not (.tst (.call 27 [(.frz 2), (.frz 3), (.var 5)]))) (.seq (.ret (.cst (.bl false)))
      .skip) .skip)
    .skip)))))
  (.seq (.ifs (.not (.tst (.call 28 [(.var 1), (.frz 2), (.frz 3), (.frz 4)]))) (.seq (.ret (.cst (.bl false)))
    .skip) .skip)
  (.seq (.set 5 (.idx (.frz 4) (.call 11 [(.var 1), (.blt .len [(.frz 4)])])))
  (.seq (.ret (.call 32 [(.var 1), (.frz 2), (.frz 3), (.var 5)]))
  .skip))))))))
def top (i : Nat) : Stmt := PySem.Challenge.pw_viewsback_k81_closures_and_two_rows.main.body.getD i (.Pass ⟨0, 0, 0, 0⟩)
def cfg : Cfg where
  fns := [("look_names" : Str), ("look_rules" : Str), ("all_in" : Str), ("reached" : Str), ("keeps" : Str), ("closure" : Str), ("follows" : Str), ("derivation" : Str), ("is_derivation" : Str), ("two_rows" : Str), ("_law_digits" : Str), ("_law_take" : Str), ("_law_new_names" : Str), ("_law_drawn_columns" : Str), ("_law_pick" : Str), ("_law_drawn_rules" : Str), ("_law_lacks" : Str), ("_law_reach" : Str), ("_law_asked" : Str), ("_law_walk" : Str), ("_law_derives" : Str), ("_law_papers" : Str), ("_law_is_paper" : Str), ("_law_kept" : Str), ("_law_is_two" : Str), ("_law_closed" : Str), ("_law_derived" : Str), ("_law_parted" : Str), ("_law_tables" : Str), ("_law_refuses" : Str), ("_law_with" : Str), ("_law_spoilt" : Str), ("_law_refusals" : Str), ("law" : Str)]
  globs := []
  exns := [("NoColumn" : Str)]
theorem mlook_names : mB cfg flook_names.names (defScope (top 7)) flook_names.body (defBody (top 7)) = true := by decide +kernel
theorem slook_names : FnScope flook_names.names [("columns" : Str), ("names" : Str)] (defScope (top 7)) := ⟨rfl, rfl, rfl, by decide +kernel, rfl, by decide +kernel, by decide +kernel⟩
theorem mlook_rules : mB cfg flook_rules.names (defScope (top 8)) flook_rules.body (defBody (top 8)) = true := by decide +kernel
theorem slook_rules : FnScope flook_rules.names [("columns" : Str), ("rules" : Str)] (defScope (top 8)) := ⟨rfl, rfl, rfl, by decide +kernel, rfl, by decide +kernel, by decide +kernel⟩
theorem mall_in : mB cfg fall_in.names (defScope (top 9)) fall_in.body (defBody (top 9)) = true := by decide +kernel
theorem sall_in : FnScope fall_in.names [("names" : Str), ("known" : Str)] (defScope (top 9)) := ⟨rfl, rfl, rfl, by decide +kernel, rfl, by decide +kernel, by decide +kernel⟩
theorem mreached : mB cfg freached.names (defScope (top 10)) freached.body (defBody (top 10)) = true := by decide +kernel
theorem sreached : FnScope freached.names [("rules" : Str), ("left" : Str)] (defScope (top 10)) := ⟨rfl, rfl, rfl, by decide +kernel, rfl, by decide +kernel, by decide +kernel⟩
theorem mkeeps : mB cfg fkeeps.names (defScope (top 11)) fkeeps.body (defBody (top 11)) = true := by decide +kernel
theorem skeeps : FnScope fkeeps.names [("columns" : Str), ("rows" : Str), ("rule" : Str)] (defScope (top 11)) := ⟨rfl, rfl, rfl, by decide +kernel, rfl, by decide +kernel, by decide +kernel⟩
theorem mclosure : mB cfg fclosure.names (defScope (top 12)) fclosure.body (defBody (top 12)) = true := by decide +kernel
theorem sclosure : FnScope fclosure.names [("columns" : Str), ("rules" : Str), ("left" : Str)] (defScope (top 12)) := ⟨rfl, rfl, rfl, by decide +kernel, rfl, by decide +kernel, by decide +kernel⟩
theorem mfollows : mB cfg ffollows.names (defScope (top 13)) ffollows.body (defBody (top 13)) = true := by decide +kernel
theorem sfollows : FnScope ffollows.names [("columns" : Str), ("rules" : Str), ("rule" : Str)] (defScope (top 13)) := ⟨rfl, rfl, rfl, by decide +kernel, rfl, by decide +kernel, by decide +kernel⟩
theorem mderivation : mB cfg fderivation.names (defScope (top 14)) fderivation.body (defBody (top 14)) = true := by decide +kernel
theorem sderivation : FnScope fderivation.names [("columns" : Str), ("rules" : Str), ("rule" : Str)] (defScope (top 14)) := ⟨rfl, rfl, rfl, by decide +kernel, rfl, by decide +kernel, by decide +kernel⟩
theorem mis_derivation : mB cfg fis_derivation.names (defScope (top 15)) fis_derivation.body (defBody (top 15)) = true := by decide +kernel
theorem sis_derivation : FnScope fis_derivation.names [("columns" : Str), ("rules" : Str), ("rule" : Str), ("paper" : Str)] (defScope (top 15)) := ⟨rfl, rfl, rfl, by decide +kernel, rfl, by decide +kernel, by decide +kernel⟩
theorem mtwo_rows : mB cfg ftwo_rows.names (defScope (top 16)) ftwo_rows.body (defBody (top 16)) = true := by decide +kernel
theorem stwo_rows : FnScope ftwo_rows.names [("columns" : Str), ("rules" : Str), ("rule" : Str)] (defScope (top 16)) := ⟨rfl, rfl, rfl, by decide +kernel, rfl, by decide +kernel, by decide +kernel⟩
theorem m_law_digits : mB cfg f_law_digits.names (defScope (top 18)) f_law_digits.body (defBody (top 18)) = true := by decide +kernel
theorem s_law_digits : FnScope f_law_digits.names [("script" : Str)] (defScope (top 18)) := ⟨rfl, rfl, rfl, by decide +kernel, rfl, by decide +kernel, by decide +kernel⟩
theorem m_law_take : mB cfg f_law_take.names (defScope (top 19)) f_law_take.body (defBody (top 19)) = true := by decide +kernel
theorem s_law_take : FnScope f_law_take.names [("state" : Str), ("many" : Str)] (defScope (top 19)) := ⟨rfl, rfl, rfl, by decide +kernel, rfl, by decide +kernel, by decide +kernel⟩
theorem m_law_new_names : mB cfg f_law_new_names.names (defScope (top 20)) f_law_new_names.body (defBody (top 20)) = true := by decide +kernel
theorem s_law_new_names : FnScope f_law_new_names.names [("state" : Str), ("many" : Str)] (defScope (top 20)) := ⟨rfl, rfl, rfl, by decide +kernel, rfl, by decide +kernel, by decide +kernel⟩
theorem m_law_drawn_columns : mB cfg f_law_drawn_columns.names (defScope (top 21)) f_law_drawn_columns.body (defBody (top 21)) = true := by decide +kernel
theorem s_law_drawn_columns : FnScope f_law_drawn_columns.names [("state" : Str)] (defScope (top 21)) := ⟨rfl, rfl, rfl, by decide +kernel, rfl, by decide +kernel, by decide +kernel⟩
theorem m_law_pick : mB cfg f_law_pick.names (defScope (top 22)) f_law_pick.body (defBody (top 22)) = true := by decide +kernel
theorem s_law_pick : FnScope f_law_pick.names [("state" : Str), ("columns" : Str), ("most" : Str)] (defScope (top 22)) := ⟨rfl, rfl, rfl, by decide +kernel, rfl, by decide +kernel, by decide +kernel⟩
theorem m_law_drawn_rules : mB cfg f_law_drawn_rules.names (defScope (top 23)) f_law_drawn_rules.body (defBody (top 23)) = true := by decide +kernel
theorem s_law_drawn_rules : FnScope f_law_drawn_rules.names [("state" : Str), ("columns" : Str)] (defScope (top 23)) := ⟨rfl, rfl, rfl, by decide +kernel, rfl, by decide +kernel, by decide +kernel⟩
theorem m_law_lacks : mB cfg f_law_lacks.names (defScope (top 24)) f_law_lacks.body (defBody (top 24)) = true := by decide +kernel
theorem s_law_lacks : FnScope f_law_lacks.names [("some" : Str), ("known" : Str)] (defScope (top 24)) := ⟨rfl, rfl, rfl, by decide +kernel, rfl, by decide +kernel, by decide +kernel⟩
theorem m_law_reach : mB cfg f_law_reach.names (defScope (top 25)) f_law_reach.body (defBody (top 25)) = true := by decide +kernel
theorem s_law_reach : FnScope f_law_reach.names [("columns" : Str), ("rules" : Str), ("left" : Str)] (defScope (top 25)) := ⟨rfl, rfl, rfl, by decide +kernel, rfl, by decide +kernel, by decide +kernel⟩
theorem m_law_asked : mB cfg f_law_asked.names (defScope (top 26)) f_law_asked.body (defBody (top 26)) = true := by decide +kernel
theorem s_law_asked : FnScope f_law_asked.names [("state" : Str), ("columns" : Str), ("rules" : Str)] (defScope (top 26)) := ⟨rfl, rfl, rfl, by decide +kernel, rfl, by decide +kernel, by decide +kernel⟩
theorem m_law_walk : mB cfg f_law_walk.names (defScope (top 27)) f_law_walk.body (defBody (top 27)) = true := by decide +kernel
theorem s_law_walk : FnScope f_law_walk.names [("rules" : Str), ("left" : Str)] (defScope (top 27)) := ⟨rfl, rfl, rfl, by decide +kernel, rfl, by decide +kernel, by decide +kernel⟩
theorem m_law_derives : mB cfg f_law_derives.names (defScope (top 28)) f_law_derives.body (defBody (top 28)) = true := by decide +kernel
theorem s_law_derives : FnScope f_law_derives.names [("rules" : Str), ("rule" : Str), ("paper" : Str)] (defScope (top 28)) := ⟨rfl, rfl, rfl, by decide +kernel, rfl, by decide +kernel, by decide +kernel⟩
theorem m_law_papers : mB cfg f_law_papers.names (defScope (top 29)) f_law_papers.body (defBody (top 29)) = true := by decide +kernel
theorem s_law_papers : FnScope f_law_papers.names [("state" : Str), ("many" : Str), ("walk" : Str)] (defScope (top 29)) := ⟨rfl, rfl, rfl, by decide +kernel, rfl, by decide +kernel, by decide +kernel⟩
theorem m_law_is_paper : mB cfg f_law_is_paper.names (defScope (top 30)) f_law_is_paper.body (defBody (top 30)) = true := by decide +kernel
theorem s_law_is_paper : FnScope f_law_is_paper.names [("rules" : Str), ("rule" : Str), ("paper" : Str)] (defScope (top 30)) := ⟨rfl, rfl, rfl, by decide +kernel, rfl, by decide +kernel, by decide +kernel⟩
theorem m_law_kept : mB cfg f_law_kept.names (defScope (top 31)) f_law_kept.body (defBody (top 31)) = true := by decide +kernel
theorem s_law_kept : FnScope f_law_kept.names [("columns" : Str), ("rows" : Str), ("rule" : Str)] (defScope (top 31)) := ⟨rfl, rfl, rfl, by decide +kernel, rfl, by decide +kernel, by decide +kernel⟩
theorem m_law_is_two : mB cfg f_law_is_two.names (defScope (top 32)) f_law_is_two.body (defBody (top 32)) = true := by decide +kernel
theorem s_law_is_two : FnScope f_law_is_two.names [("columns" : Str), ("rows" : Str)] (defScope (top 32)) := ⟨rfl, rfl, rfl, by decide +kernel, rfl, by decide +kernel, by decide +kernel⟩
theorem m_law_closed : mB cfg f_law_closed.names (defScope (top 33)) f_law_closed.body (defBody (top 33)) = true := by decide +kernel
theorem s_law_closed : FnScope f_law_closed.names [("columns" : Str), ("rules" : Str), ("left" : Str)] (defScope (top 33)) := ⟨rfl, rfl, rfl, by decide +kernel, rfl, by decide +kernel, by decide +kernel⟩
theorem m_law_derived : mB cfg f_law_derived.names (defScope (top 34)) f_law_derived.body (defBody (top 34)) = true := by decide +kernel
theorem s_law_derived : FnScope f_law_derived.names [("state" : Str), ("columns" : Str), ("rules" : Str), ("rule" : Str)] (defScope (top 34)) := ⟨rfl, rfl, rfl, by decide +kernel, rfl, by decide +kernel, by decide +kernel⟩
theorem m_law_parted : mB cfg f_law_parted.names (defScope (top 35)) f_law_parted.body (defBody (top 35)) = true := by decide +kernel
theorem s_law_parted : FnScope f_law_parted.names [("columns" : Str), ("rules" : Str), ("rule" : Str)] (defScope (top 35)) := ⟨rfl, rfl, rfl, by decide +kernel, rfl, by decide +kernel, by decide +kernel⟩
theorem m_law_tables : mB cfg f_law_tables.names (defScope (top 36)) f_law_tables.body (defBody (top 36)) = true := by decide +kernel
theorem s_law_tables : FnScope f_law_tables.names [("state" : Str), ("columns" : Str), ("rules" : Str), ("asked" : Str)] (defScope (top 36)) := ⟨rfl, rfl, rfl, by decide +kernel, rfl, by decide +kernel, by decide +kernel⟩
theorem m_law_with : mB cfg f_law_with.names (defScope (top 38)) f_law_with.body (defBody (top 38)) = true := by decide +kernel
theorem s_law_with : FnScope f_law_with.names [("state" : Str), ("some" : Str), ("name" : Str)] (defScope (top 38)) := ⟨rfl, rfl, rfl, by decide +kernel, rfl, by decide +kernel, by decide +kernel⟩
theorem m_law_spoilt : mB cfg f_law_spoilt.names (defScope (top 39)) f_law_spoilt.body (defBody (top 39)) = true := by decide +kernel
theorem s_law_spoilt : FnScope f_law_spoilt.names [("state" : Str), ("rules" : Str), ("rule" : Str)] (defScope (top 39)) := ⟨rfl, rfl, rfl, by decide +kernel, rfl, by decide +kernel, by decide +kernel⟩
theorem m_law_refusals : mB cfg f_law_refusals.names (defScope (top 40)) f_law_refusals.body (defBody (top 40)) = true := by decide +kernel
theorem s_law_refusals : FnScope f_law_refusals.names [("state" : Str), ("columns" : Str), ("rules" : Str), ("rule" : Str)] (defScope (top 40)) := ⟨rfl, rfl, rfl, by decide +kernel, rfl, by decide +kernel, by decide +kernel⟩
theorem mlaw : mB cfg flaw.names (defScope (top 41)) flaw.body (defBody (top 41)) = true := by decide +kernel
theorem slaw : FnScope flaw.names [("script" : Str)] (defScope (top 41)) := ⟨rfl, rfl, rfl, by decide +kernel, rfl, by decide +kernel, by decide +kernel⟩
def f_law_refuses : Tr where
  names := [("which" : Str), ("columns" : Str), ("rules" : Str), ("rule" : Str), ("name" : Str), ("e" : Str)]
  np := 5
  body := (.seq (.ifs (.tst (.cmp .eq (.var 0) (.cst (.int 0)))) (.seq (.expr (.call 4 [(.blt .list [(.var 1)]), (.lst 0 []), (.var 3)]))
    .skip) (.seq (.ifs (.tst (.cmp .eq (.var 0) (.cst (.int 1)))) (.seq (.expr (.call 5 [(.blt .list [(.var 1)]), (.blt .list [(.var 2)]), (.blt .list [(.idx (.var 3) (.cst (.int 1)))])]))
      .skip) (.seq (.ifs (.tst (.cmp .eq (.var 0) (.cst (.int 2)))) (.seq (.expr (.call 6 [(.blt .list [(.var 1)]), (.blt .list [(.var 2)]), (.var 3)]))
        .skip) (.seq (.ifs (.tst (.cmp .eq (.var 0) (.cst (.int 3)))) (.seq (.expr (.call 7 [(.blt .list [(.var 1)]), (.blt .list [(.var 2)]), (.var 3)]))
          .skip) (.seq (.ifs (.tst (.cmp .eq (.var 0) (.cst (.int 4)))) (.seq (.expr (.call 8 [(.blt .list [(.var 1)]), (.blt .list [(.var 2)]), (.var 3), (.lst 0 [])]))
            .skip) (.seq (.expr (.call 9 [(.blt .list [(.var 1)]), (.blt .list [(.var 2)]), (.var 3)]))
            .skip))
          .skip))
        .skip))
      .skip))
    .skip))
  .skip)
  after := (.seq (.ret (.cst (.bl false)))
  .skip)
  ei := 5
  cls := 0
  ans := fun x ss => match (ss[4]? : Option SV) with
    | some (SV.fz nm) => (deq x.arg nm).map D.bl
    | _ => none
def tryBody : Stmt → List Stmt
  | .Try b _ _ _ _ => b
  | _ => []
def restOf : List Stmt → List Stmt
  | _ :: r => r
  | [] => []
def headOf : List Stmt → Stmt
  | s :: _ => s
  | [] => .Pass ⟨0, 0, 0, 0⟩
theorem m_law_refuses : mB cfg f_law_refuses.names (defScope (top 37)) f_law_refuses.body (tryBody (headOf (defBody (top 37)))) = true := by decide +kernel
theorem m_law_refuses2 : mB cfg f_law_refuses.names (defScope (top 37)) f_law_refuses.after (restOf (defBody (top 37))) = true := by decide +kernel
theorem s_law_refuses : FnScope f_law_refuses.names [("which" : Str), ("columns" : Str), ("rules" : Str), ("rule" : Str), ("name" : Str)] (defScope (top 37)) := ⟨rfl, rfl, rfl, by decide +kernel, rfl, by decide +kernel, by decide +kernel⟩
theorem t_law_refuses : still f_law_refuses.body = true := by decide +kernel
def ds : List Df := [.ir flook_names, .ir flook_rules, .ir fall_in, .ir freached, .ir fkeeps, .ir fclosure, .ir ffollows, .ir fderivation, .ir fis_derivation, .ir ftwo_rows, .ir f_law_digits, .ir f_law_take, .ir f_law_new_names, .ir f_law_drawn_columns, .ir f_law_pick, .ir f_law_drawn_rules, .ir f_law_lacks, .ir f_law_reach, .ir f_law_asked, .ir f_law_walk, .ir f_law_derives, .ir f_law_papers, .ir f_law_is_paper, .ir f_law_kept, .ir f_law_is_two, .ir f_law_closed, .ir f_law_derived, .ir f_law_parted, .ir f_law_tables, .hand fun Φ => f_law_refuses.run Φ 100000, .ir f_law_with, .ir f_law_spoilt, .ir f_law_refusals, .ir flaw]
end K81
end
section
set_option Elab.async false
set_option linter.all false
set_option maxRecDepth 100000
/-! plain forms run by simp -/
namespace Mi.Px
open PySem L2
theorem bind_wk {α β : Type} {r r' : Rs α} {k : α → Env → Rs β} (h : r = r') : r.bind k = r'.bind k := by rw [h]
inductive wp {α : Type} : Rs α → (α → Env → Prop) → (Exn → Prop) → Prop
  | ok {a : α} {e : Env} {Q : α → Env → Prop} {X : Exn → Prop} : Q a e → wp (.ok a e) Q X
  | ex {x : Exn} {Q : α → Env → Prop} {X : Exn → Prop} : X x → wp (.ex x) Q X
theorem wp_wk {α : Type} {r r' : Rs α} {Q : α → Env → Prop} {X : Exn → Prop} (h : r = r') : wp r Q X = wp r' Q X := by rw [h]
@[simp] theorem wp_ok {α : Type} {a : α} {e : Env} {Q : α → Env → Prop} {X : Exn → Prop} : wp (.ok a e) Q X ↔ Q a e := ⟨fun h => by cases h; assumption, .ok⟩
@[simp] theorem wp_ex {α : Type} {x : Exn} {Q : α → Env → Prop} {X : Exn → Prop} : wp (.ex x : Rs α) Q X ↔ X x := ⟨fun h => by cases h; assumption, .ex⟩
@[simp] theorem wp_no {α : Type} {Q : α → Env → Prop} {X : Exn → Prop} : wp (.no : Rs α) Q X ↔ False := ⟨fun h => (by cases h), fun h => h.elim⟩
theorem wp_mono {α : Type} {r : Rs α} {Q Q' : α → Env → Prop} {X X' : Exn → Prop} (h : wp r Q X) (q : ∀ a e, Q a e → Q' a e) (x : ∀ e, X e → X' e) : wp r Q' X' := by
  cases h with
  | ex h => exact .ex (x _ h)
  | ok h => exact .ok (q _ _ h)
theorem wp_bind {α β : Type} {r : Rs α} {k : α → Env → Rs β} {Q : β → Env → Prop} {X : Exn → Prop} : wp (r.bind k) Q X ↔ wp r (fun a e => wp (k a e) Q X) X := by
  cases r <;> simp
section
variable {Φ : Calls} {W : Nat} {env : Env}
@[simp] theorem ev_var {i} : ev Φ (.var i) env = ofO (rd env i) env := by rw [ev]
@[simp] theorem ev_frz {i} : ev Φ (.frz i) env = match env[i]? with
    | some (.ow _ d) => .ok (.fz d) (env.set i (.fz d))
    | some (.fz d) => .ok (.fz d) env
    | _ => .no := by first | (rw [ev]; done) | (rw [ev]; rfl)
@[simp] theorem ev_mv {i} : ev Φ (.mv i) env = match env[i]? with
    | some (.ow n d) => .ok (.ow n d) (env.set i .un)
    | _ => .no := by first | (rw [ev]; done) | (rw [ev]; rfl)
@[simp] theorem ev_cst {d} : ev Φ (.cst d) env = .ok (.fz d) env := by rw [ev]
@[simp] theorem ev_tup {n es} : ev Φ (.tup n es) env = (evs Φ es env).bind fun rs e =>
    if n = 0 then (match Mi.keeps rs e with
      | some (ds, e') => if ds.length ≤ lim then .ok (.fz (.tup ds)) e' else .no
      | none => .no)
    else (match rs.mapM (owOf n) with
      | some ds => if ds.length ≤ lim then .ok (.ow (n + 1) (.tup ds)) e else .no
      | none => .no) := by first | (rw [ev]; done) | (rw [ev]; rfl)
@[simp] theorem ev_lst {n es} : ev Φ (.lst n es) env = (evs Φ es env).bind fun rs e => match Mi.keeps rs e with
    | some (ds, e') => if ds.length ≤ lim then .ok (.ow 1 (.lst ds)) e' else .no
    | none => .no := by first | (rw [ev]; done) | (rw [ev]; rfl)
@[simp] theorem ev_dt0 : ev Φ .dt0 env = .ok (.ow 1 (.dt [] [])) env := by rw [ev]
@[simp] theorem ev_bin {o a b} : ev Φ (.bin o a b) env = (ev Φ a env).bind fun x e1 => (ev Φ b e1).bind fun y e2 => match see e2 x, see e2 y with
    | some d, some d' => ofO ((bop o d d').map D.rv) e2
    | _, _ => .no := by first | (rw [ev]; done) | (rw [ev]; rfl)
@[simp] theorem ev_cmp {o a b} : ev Φ (.cmp o a b) env = (ev Φ a env).bind fun x e1 => (ev Φ b e1).bind fun y e2 => match see e2 x, see e2 y with
    | some d, some d' => ofO ((cop o d d').map fun c => .fz (.bl c)) e2
    | _, _ => .no := by first | (rw [ev]; done) | (rw [ev]; rfl)
@[simp] theorem ev_chn {o p a b c} : ev Φ (.chn o p a b c) env = (ev Φ a env).bind fun x e1 => (ev Φ b e1).bind fun y e2 => match see e2 x, see e2 y with
    | some d, some d' => match cop o d d' with
      | some true => (ev Φ c e2).bind fun z e3 => match see e3 y, see e3 z with
        | some d', some d'' => ofO ((cop p d' d'').map fun c => .fz (.bl c)) e3
        | _, _ => .no
      | some false => .ok (.fz (.bl false)) e2
      | none => .no
    | _, _ => .no := by first | (rw [ev]; done) | (rw [ev]; rfl)
@[simp] theorem ev_and {a b} : ev Φ (.and a b) env = (ev Φ a env).bind fun x e => match x with
    | .fz (.bl true) => ev Φ b e
    | .fz (.bl false) => .ok (.fz (.bl false)) e
    | _ => .no := by first | (rw [ev]; done) | (rw [ev]; rfl)
@[simp] theorem ev_or {a b} : ev Φ (.or a b) env = (ev Φ a env).bind fun x e => match x with
    | .fz (.bl true) => .ok (.fz (.bl true)) e
    | .fz (.bl false) => ev Φ b e
    | _ => .no := by first | (rw [ev]; done) | (rw [ev]; rfl)
@[simp] theorem ev_not {a} : ev Φ (.not a) env = (ev Φ a env).bind fun x e => match x with
    | .fz (.bl c) => .ok (.fz (.bl (!c))) e
    | _ => .no := by first | (rw [ev]; done) | (rw [ev]; rfl)
@[simp] theorem ev_ifx {c a b} : ev Φ (.ifx c a b) env = (evt Φ c env).bind fun c e => if c then ev Φ a e else ev Φ b e := by rw [ev]
@[simp] theorem ev_call {f es} : ev Φ (.call f es) env = (evs Φ es env).bind fun rs e => if apart rs [] then match lends e rs with
      | some ss => match Φ f ss with
        | .ok r ss' => ofO ((back rs ss' e).map fun e' => (r, e')) e |>.bind fun p _ => .ok p.1 p.2
        | .ex x => .ex x
        | .no => .no
      | none => .no
    else .no := by first | (rw [ev]; done) | (rw [ev]; rfl)
@[simp] theorem ev_blt {f es} : ev Φ (.blt f es) env = (evs Φ es env).bind fun rs e => match looks e rs with
    | some ds => ofO ((bltin f ds).map D.rv) e
    | none => .no := by first | (rw [ev]; done) | (rw [ev]; rfl)
@[simp] theorem ev_isi {ts a} : ev Φ (.isi ts a) env = (ev Φ a env).bind fun x e => match look1 e x with
    | some d => .ok (.fz (.bl (ts.any fun t => decide (t = d.ty) || (decide (t = "int") && decide (d.ty = "bool"))))) e
    | none => .no := by first | (rw [ev]; done) | (rw [ev]; rfl)
@[simp] theorem ev_met {m a es} : ev Φ (.met m a es) env = (ev Φ a env).bind fun x e1 => if metFits m (see e1 x) then (evs Φ es e1).bind fun rs e2 => match see e2 x, looks e2 rs with
    | some d, some ds => ofO ((metd m d ds).map D.rv) e2
    | _, _ => .no
    else .no := by first | (rw [ev]; done) | (rw [ev]; rfl)
@[simp] theorem ev_mut {m i es} : ev Φ (.mut m i es) env = if mutFits m (obj env i) then (evs Φ es env).bind fun rs e => match Mi.keeps rs e with
    | some (as, e') => match e'[i]? with
      | some (.ow n d) => ofO (mutate m n d as) e' |>.bind fun p _ => .ok p.1 (e'.set i (.ow n p.2))
      | some (.pn n d) => ofO (mutate m n d as) e' |>.bind fun p _ => .ok p.1 (e'.set i (.pn n p.2))
      | _ => .no
    | none => .no else .no := by first | (rw [ev]; done) | (rw [ev]; rfl)
@[simp] theorem ev_idx {a b} : ev Φ (.idx a b) env = (ev Φ a env).bind fun x e1 => (ev Φ b e1).bind fun y e2 => match look1 e2 x, look1 e2 y with
    | some d, some k => ofO ((didx d k).map RV.fz) e2
    | _, _ => .no := by first | (rw [ev]; done) | (rw [ev]; rfl)
@[simp] theorem ev_slc {a lo hi} : ev Φ (.slc a lo hi) env = (ev Φ a env).bind fun x e1 => (evo Φ lo e1).bind fun l e2 => (evo Φ hi e2).bind fun h e3 => match see e3 x with
    | some d => ofO ((dslc d l h).map D.rv) e3
    | none => .no := by first | (rw [ev]; done) | (rw [ev]; rfl)
@[simp] theorem ev_one {a} : ev Φ (.one a) env = ev Φ a env := by rw [ev]
@[simp] theorem evs_nil : evs Φ [] env = .ok [] env := by rw [evs]
@[simp] theorem evs_cons {e r} : evs Φ (e :: r) env = (ev Φ e env).bind fun x e1 => (evs Φ r e1).bind fun xs e2 => .ok (x :: xs) e2 := by rw [evs]
@[simp] theorem evo_none : evo Φ none env = .ok none env := by rw [evo]
@[simp] theorem evo_some {e} : evo Φ (some e) env = (ev Φ e env).bind fun x e1 => match x with
    | .fz (.int i) => .ok (some i) e1
    | _ => .no := by first | (rw [evo]; done) | (rw [evo]; rfl)
@[simp] theorem evc_none : evc Φ none env = .ok true env := by rw [evc]
@[simp] theorem evc_some {e} : evc Φ (some e) env = evt Φ e env := by rw [evc]
@[simp] theorem evt_not {a} : evt Φ (.not a) env = (evt Φ a env).bind fun c e => .ok (!c) e := by rw [evt]
@[simp] theorem evt_and {a b} : evt Φ (.and a b) env = (evt Φ a env).bind fun c e => if c then evt Φ b e else .ok false e := by rw [evt]
@[simp] theorem evt_or {a b} : evt Φ (.or a b) env = (evt Φ a env).bind fun c e => if c then .ok true e else evt Φ b e := by rw [evt]
@[simp] theorem evt_one {a} : evt Φ (.one a) env = evt Φ a env := by rw [evt]
@[simp] theorem evt_tst {a} : evt Φ (.tst a) env = (ev Φ a env).bind fun x e => match look1 e x with
    | some d => ofO d.tru e
    | none => .no := by first | (rw [evt]; done) | (rw [evt]; rfl)
@[simp] theorem evi_seq {a} : evi Φ (.seq a) env = (ev Φ a env).bind fun x e => ofO (source e x) e := by rw [evi]
@[simp] theorem evi_rng1 {a} : evi Φ (.rng1 a) env = (ev Φ a env).bind fun x e => match x with
    | .fz (.int j) => if small62 j then .ok (rngD 0 j, none) e else .no
    | _ => .no := by first | (rw [evi]; done) | (rw [evi]; rfl)
@[simp] theorem evi_enm {a} : evi Φ (.enm a) env = (ev Φ a env).bind fun x e => if isStr x then .no else (match source e x with
    | some (ds, lk) => .ok (enumD 0 ds, lk) e
    | none => .no) := by first | (rw [evi]; done) | (rw [evi]; rfl)
@[simp] theorem exc_skip : exc Φ W .skip env = .ok .nx env := by rw [exc]
@[simp] theorem wp_seq {a b} {Q : Fl → Env → Prop} {X} : wp (exc Φ W (.seq a b) env) Q X ↔ wp (exc Φ W a env) (fun f e => match f with | .nx => wp (exc Φ W b e) Q X | f => Q f e) X := by
  rw [exc]
  cases exc Φ W a env with
  | no => simp
  | ex x => simp
  | ok f e => cases f <;> simp
@[simp] theorem exc_set {i e} : exc Φ W (.set i e) env = (ev Φ e env).bind fun r e1 => ofO ((store e1 i r).map fun e2 => (Fl.nx, e2)) e1 |>.bind fun p _ => .ok p.1 p.2 := by rw [exc]
@[simp] theorem exc_unp {t e} : exc Φ W (.unp t e) env = (ev Φ e env).bind fun r e1 => match r, t with
    | .fz d, t => (match tgt t d e1 with | some e2 => .ok .nx e2 | none => .no)
    | .ow (n + 1) (.tup ds), .tp ts => (match tgtO n ts ds e1 with | some e2 => .ok .nx e2 | none => .no)
    | _, _ => .no := by first | (rw [exc]; done) | (rw [exc]; rfl)
@[simp] theorem exc_sidx {i k e} : exc Φ W (.sidx i k e) env = (ev Φ e env).bind fun r e1 => if (obj e1 i).isSome then (ev Φ k e1).bind fun q e2 => (match keep e2 r, q with
    | some (x, e3), .fz kd => (match e3[i]? with
      | some (.ow 1 d) => (match sidxD d kd x with | some d' => .ok .nx (e3.set i (.ow 1 d')) | none => .no)
      | some (.pn 1 d) => (match sidxD d kd x with | some d' => .ok .nx (e3.set i (.pn 1 d')) | none => .no)
      | _ => .no)
    | _, _ => .no) else .no := by first | (rw [exc]; done) | (rw [exc]; rfl)
@[simp] theorem exc_expr {e} : exc Φ W (.expr e) env = (ev Φ e env).bind fun _ e1 => .ok .nx e1 := by rw [exc]
@[simp] theorem exc_ret {e} : exc Φ W (.ret e) env = (ev Φ e env).bind fun r e1 => match leave e1 r with
    | some (r, e2) => .ok (.ret r) e2
    | none => .no := by first | (rw [exc]; done) | (rw [exc]; rfl)
@[simp] theorem wp_ifs {c a b} {Q : Fl → Env → Prop} {X} : wp (exc Φ W (.ifs c a b) env) Q X ↔ wp (evt Φ c env) (fun c e => if c then wp (exc Φ W a e) Q X else wp (exc Φ W b e) Q X) X := by
  rw [exc, wp_bind]
  cases evt Φ c env with
  | no => simp
  | ex x => simp
  | ok f e => cases f <;> simp
@[simp] theorem exc_raise {c es} : exc Φ W (.raise c es) env = (evs Φ es env).bind fun rs e => match Mi.keeps rs e with
    | some ([d], _) => if exArg d then .ex ⟨c, d⟩ else .no
    | _ => .no := by first | (rw [exc]; done) | (rw [exc]; rfl)
theorem forLoop_wp {β : Type} {lk : Option (Nat × SV)} {t : Tg} {body : Env → Rs Fl} {Q : Fl → Env → Prop} {X : Exn → Prop} (g : β → D) (I : List β → Env → Prop) : ∀ (xs : List β) (pre : List β) (e : Env), I pre e →
    (∀ (p : List β) (x : β) (q : List β) (e : Env), pre ++ xs = p ++ x :: q → I p e → held lk e = true ∧ ∃ e2, tgt t (g x) e = some e2 ∧ wp (body e2) (fun f e3 => match f with
      | .nx => I (p ++ [x]) e3
      | .cnt => I (p ++ [x]) e3
      | .brk => held lk e3 = true ∧ Q .nx e3
      | .ret r => held lk e3 = true ∧ Q (.ret r) e3) X) →
    (∀ e, I (pre ++ xs) e → held lk e = true ∧ Q .nx e) → wp (forLoop lk t body (xs.map g) e) Q X
  | [], pre, e, h0, _, he => by
    have := he e (by simpa using h0)
    simp [forLoop, this.1, this.2]
  | x :: xs, pre, e, h0, hs, he => by
    obtain ⟨h1, e2, h2, h3⟩ := hs pre x xs e rfl h0
    simp only [List.map_cons, forLoop, h1, h2, if_true]
    rw [wp_bind]
    refine wp_mono h3 (fun f e3 h => ?_) (fun _ h => h)
    cases f with
    | nx => exact forLoop_wp g I xs (pre ++ [x]) e3 h (by simpa using hs) (by simpa using he)
    | cnt => exact forLoop_wp g I xs (pre ++ [x]) e3 h (by simpa using hs) (by simpa using he)
    | brk => simp only [h.1, if_true]; exact .ok h.2
    | ret r => simp only [h.1, if_true]; exact .ok h.2
/-- a for, by what stands ahead of each turn -/
theorem wp_for {β : Type} {t src b} {Q : Fl → Env → Prop} {X : Exn → Prop} {xs : List β} {g : β → D} {lk : Option (Nat × SV)} {e1 : Env} (hs : evi Φ src env = .ok (xs.map g, lk) e1) (I : List β → Env → Prop) (h0 : I [] (lockE lk e1))
    (hstep : ∀ (p : List β) (x : β) (q : List β) (e : Env), xs = p ++ x :: q → I p e → held lk e = true ∧ ∃ e2, tgt t (g x) e = some e2 ∧ wp (exc Φ W b e2) (fun f e3 => match f with
      | .nx => I (p ++ [x]) e3
      | .cnt => I (p ++ [x]) e3
      | .brk => held lk e3 = true ∧ Q .nx (unlockE lk e3)
      | .ret r => held lk e3 = true ∧ Q (.ret r) (unlockE lk e3)) X)
    (hend : ∀ e, I xs e → held lk e = true ∧ Q .nx (unlockE lk e)) : wp (exc Φ W (.for_ t src b) env) Q X := by
  rw [exc, hs, Rs.bind_ok, wp_bind]
  exact forLoop_wp (Q := fun f e => wp (.ok f (unlockE lk e)) Q X) g I xs [] _ h0 (fun p x q e h hi => (by simpa only [wp_ok] using hstep p x q e (by simpa using h) hi)) (fun e h => (by simpa only [wp_ok] using hend e (by simpa using h)))
theorem whl_wp {c : Env → Rs Bool} {body : Env → Rs Fl} {Q : Fl → Env → Prop} {X : Exn → Prop} (I : Nat → Env → Prop)
    (hs : ∀ n e, I n e → wp (c e) (fun b e1 => if b then wp (body e1) (fun f e2 => match f with
      | .nx => ∃ m, m < n ∧ I m e2
      | .cnt => ∃ m, m < n ∧ I m e2
      | .brk => Q .nx e2
      | .ret r => Q (.ret r) e2) X else Q .nx e1) X) : ∀ (W n : Nat) (e : Env), n < W → I n e → wp (whlLoop c body W e) Q X
  | 0, n, e, h, _ => absurd h (Nat.not_lt_zero _)
  | W + 1, n, e, h, hi => by
    rw [whlLoop, wp_bind]
    refine wp_mono (hs n e hi) (fun b e1 h1 => ?_) (fun _ h => h)
    cases b with
    | false => exact .ok h1
    | true =>
      rw [if_pos rfl] at h1 ⊢
      rw [wp_bind]
      refine wp_mono h1 (fun f e2 h2 => ?_) (fun _ h => h)
      cases f with
      | nx => obtain ⟨m, hm, h2⟩ := h2; exact whl_wp I hs W m e2 (by omega) h2
      | cnt => obtain ⟨m, hm, h2⟩ := h2; exact whl_wp I hs W m e2 (by omega) h2
      | brk => exact .ok h2
      | ret r => exact .ok h2
theorem wp_whl {c b} {Q : Fl → Env → Prop} {X : Exn → Prop} (I : Nat → Env → Prop) (n : Nat) (hn : n < W) (h0 : I n env)
    (hs : ∀ n e, I n e → wp (evt Φ c e) (fun t e1 => if t then wp (exc Φ W b e1) (fun f e2 => match f with
      | .nx => ∃ m, m < n ∧ I m e2
      | .cnt => ∃ m, m < n ∧ I m e2
      | .brk => Q .nx e2
      | .ret r => Q (.ret r) e2) X else Q .nx e1) X) : wp (exc Φ W (.whl c b) env) Q X := by
  rw [exc]
  exact whl_wp I hs W n env hn h0
/-! comprehensions of one own name -/
def turn1 (Φ : Calls) (c : Option Ex) (e : Ex) (en2 : Env) : Rs (Option D) := (evc Φ c en2).bind fun b en3 => if b then (ev Φ e en3).bind fun r en4 => (match keep en4 r with
            | some (x, en5) => .ok (some x) en5
            | none => .no) else .ok none en3
theorem lcLoop_wp {β : Type} {lk : Option (Nat × SV)} {turn : D → Env → Rs (Option D)} (g : β → D) (I : List D → Env → Prop) : ∀ (xs : List β) (acc : List D) (e : Env), I acc e → acc.length + xs.length ≤ lim →
    (∀ x ∈ xs, ∀ acc e, I acc e → held lk e = true ∧ wp (turn (g x) e) (fun o e2 => I (acc ++ o.toList) e2) (fun _ => False)) →
    (∀ acc e, I acc e → held lk e = true) → ∃ acc' e', lcLoop lk turn (xs.map g) acc e = .ok acc' e' ∧ I acc' e' ∧ acc'.length ≤ acc.length + xs.length
  | [], acc, e, h0, _, _, he => ⟨acc, e, by simp [lcLoop, he _ _ h0], h0, by simp⟩
  | x :: xs, acc, e, h0, hl, hs, he => by
    obtain ⟨h1, h2⟩ := hs x (List.mem_cons_self ..) acc e h0
    simp only [List.map_cons, lcLoop, h1, if_true]
    simp only [List.length_cons] at hl
    cases ht : turn (g x) e with
    | no => rw [ht] at h2; cases h2
    | ex x => rw [ht] at h2; exact (wp_ex.1 h2).elim
    | ok o e2 =>
      rw [ht, wp_ok] at h2
      rw [Rs.bind_ok]
      cases o with
      | none =>
        obtain ⟨a', e', q1, q2, q3⟩ := lcLoop_wp g I xs acc e2 (by simpa using h2) (by omega) (fun y hy => hs y (List.mem_cons_of_mem _ hy)) he
        exact ⟨a', e', q1, q2, by simp only [List.length_cons]; omega⟩
      | some d =>
        simp only
        rw [if_pos (by omega)]
        obtain ⟨a', e', q1, q2, q3⟩ := lcLoop_wp g I xs (acc ++ [d]) e2 (by simpa using h2) (by simp; omega) (fun y hy => hs y (List.mem_cons_of_mem _ hy)) he
        exact ⟨a', e', q1, q2, by simp only [List.length_cons, List.length_append, List.length_nil] at q3 ⊢; omega⟩
/-- [e for x in src if c], by what stands ahead of each turn (its own name wiped) -/
theorem ev_lcp {β : Type} {nm : Str} {j : Nat} {src : Ex} {c : Option Ex} {e : Ex} {xs : List β} {g : β → D} {lk : Option (Nat × SV)} {e1 : Env} (hs : evi Φ src env = .ok (xs.map g, lk) e1) (hd : dull e1 [j] = true) (hl : xs.length ≤ lim)
    (I : List D → Env → Prop) (h0 : I [] ((lockE lk e1).set j .un))
    (ht : ∀ x ∈ xs, ∀ acc en, I acc en → ∃ en2, tgt (.nm j) (g x) en = some en2 ∧ wp (turn1 Φ c e en2) (fun o e2 => I (acc ++ o.toList) (e2.set j .un)) (fun _ => False))
    (hh : ∀ (acc : List D) (en : Env), I acc (en.set j .un) → held lk en = true) :
    ∃ ds en, I ds (en.set j .un) ∧ ds.length ≤ xs.length ∧ ev Φ (.lcp [(nm, j)] (.nm j) src c e) env = .ok (.ow 1 (.lst ds)) (unlockE lk (undo e1 en [j])) := by
  rw [ev, hs, Rs.bind_ok]
  have := lcLoop_wp (lk := lk) (turn := fun d en => match tgt (.nm j) d (wipes en [j]) with
        | some en2 => (evc Φ c en2).bind fun b en3 => if b then (ev Φ e en3).bind fun r en4 => (match keep en4 r with
            | some (x, en5) => .ok (some x) en5
            | none => .no) else .ok none en3
        | none => .no) g (fun acc en => I acc (en.set j .un)) xs [] (lockE lk e1) h0 (by simpa using hl) (fun x hx acc en hi => ?_) (fun acc en hi => hh acc en hi)
  · obtain ⟨ds, en, h1, h2, h3⟩ := this
    refine ⟨ds, en, h2, by simpa using h3, ?_⟩
    show (if dull e1 [j] = true then _ else _) = _
    rw [if_pos hd]
    have h1' := congrArg (fun r => (Rs.noex r).bind fun ds e2 => Rs.ok (RV.ow 1 (D.lst ds)) (unlockE lk (undo e1 e2 [j]))) h1
    exact h1'
  · refine ⟨hh acc en hi, ?_⟩
    obtain ⟨en2, h1, h2⟩ := ht x hx acc _ hi
    show wp (match tgt (.nm j) (g x) (en.set j .un) with | some en2 => _ | none => _) _ _
    rw [h1]
    exact h2
/-- the same where nothing is changed by a turn -/
theorem ev_lcp0 {β : Type} {nm : Str} {j : Nat} {src : Ex} {c : Option Ex} {e : Ex} {xs : List β} {g : β → D} (f : β → Option D) {e1 : Env} {lk : Option (Nat × SV)} (hs : evi Φ src env = .ok (xs.map g, lk) e1) (hd : dull e1 [j] = true) (hl : xs.length ≤ lim)
    (hlk : ∀ i s, lk = some (i, s) → i ≠ j ∧ e1[i]? = some s)
    (ht : ∀ x ∈ xs, turn1 Φ c e ((lockE lk e1).set j (.fz (g x))) = .ok (f x) ((lockE lk e1).set j (.fz (g x)))) :
    ev Φ (.lcp [(nm, j)] (.nm j) src c e) env = .ok (.ow 1 (.lst (xs.filterMap f))) e1 := by
  have hj : ∃ s, e1[j]? = some s ∧ (s = .un ∨ ∃ d, s = .fz d) := by
    simp only [dull, List.all_cons, List.all_nil, Bool.and_true] at hd
    cases h : e1[j]? with
    | none => rw [h] at hd; simp at hd
    | some s => rw [h] at hd; cases s <;> simp at hd <;> simp
  obtain ⟨s, hj, hs'⟩ := hj
  have hlen : j < e1.length := by
    rcases Nat.lt_or_ge j e1.length with h | h
    · exact h
    · rw [List.getElem?_eq_none h] at hj; cases hj
  have hll : (lockE lk e1).length = e1.length := by
    unfold lockE
    split
    · rfl
    · simp
  have un_lock : ∀ u, unlockE lk (undo e1 ((lockE lk e1).set j u) [j]) = e1 := by
    intro u
    have h1 : undo e1 ((lockE lk e1).set j u) [j] = (lockE lk e1).set j s := by
      simp [undo, List.getD, hj]
    rw [h1]
    cases lk with
    | none =>
      show e1.set j s = e1
      refine List.ext_getElem? fun i => ?_
      rw [List.getElem?_set]
      split
      next h => subst h; exact hj.symm
      next => rfl
    | some p =>
      obtain ⟨i, s0⟩ := p
      obtain ⟨n1, n2⟩ := hlk i s0 rfl
      show ((e1.set i (pinS s0)).set j s).set i s0 = e1
      refine List.ext_getElem? fun k => ?_
      rw [List.getElem?_set, List.getElem?_set, List.getElem?_set]
      by_cases hk : i = k
      · subst hk
        have : i < e1.length := by
          rcases Nat.lt_or_ge i e1.length with h | h
          · exact h
          · rw [List.getElem?_eq_none h] at n2; cases n2
        rw [if_pos rfl, List.length_set, List.length_set, if_pos this, n2]
      · by_cases hk2 : j = k
        · subst hk2; rw [if_neg hk, if_pos rfl, List.length_set, if_pos hlen, hj]
        · rw [if_neg hk, if_neg hk2, if_neg hk]
  let I : List D → Env → Prop := fun _ en => en = (lockE lk e1).set j .un
  have key : ∀ (xs : List β), (∀ x ∈ xs, turn1 Φ c e ((lockE lk e1).set j (.fz (g x))) = .ok (f x) ((lockE lk e1).set j (.fz (g x)))) → ∀ (acc : List D) (en : Env), acc.length + xs.length ≤ lim → (∃ u, en = (lockE lk e1).set j u) →
      ∃ u, lcLoop lk (fun d en => match tgt (.nm j) d (wipes en [j]) with
        | some en2 => (evc Φ c en2).bind fun b en3 => if b then (ev Φ e en3).bind fun r en4 => (match keep en4 r with
            | some (x, en5) => .ok (some x) en5
            | none => .no) else .ok none en3
        | none => .no) (xs.map g) acc en = .ok (acc ++ xs.filterMap f) ((lockE lk e1).set j u) := by
    intro xs
    have hheld : ∀ u, held lk ((lockE lk e1).set j u) = true := by
      intro u
      cases lk with
      | none => rfl
      | some p =>
        obtain ⟨i, s0⟩ := p
        obtain ⟨n1, n2⟩ := hlk i s0 rfl
        have : i < e1.length := by
          rcases Nat.lt_or_ge i e1.length with h | h
          · exact h
          · rw [List.getElem?_eq_none h] at n2; cases n2
        show (((e1.set i (pinS s0)).set j u)[i]? == some (pinS s0)) = true
        rw [List.getElem?_set, if_neg (fun h => n1 h.symm), List.getElem?_set, if_pos rfl, if_pos this]
        simp
    induction xs with
    | nil =>
      rintro _ acc en _ ⟨u, rfl⟩
      exact ⟨u, by simp [lcLoop, hheld]⟩
    | cons x xs ih =>
      rintro ht acc en hl ⟨u, rfl⟩
      simp only [List.length_cons] at hl
      simp only [List.map_cons, lcLoop, hheld, if_true]
      have e2 : tgt (.nm j) (g x) (wipes ((lockE lk e1).set j u) [j]) = some ((lockE lk e1).set j (.fz (g x))) := by
        have h3 : j < (lockE lk e1).length := by rw [hll]; exact hlen
        simp [tgt, wipes, store, free, h3]
      rw [e2]
      show ∃ u, (turn1 Φ c e _).bind _ = _
      rw [ht x (List.mem_cons_self ..), Rs.bind_ok]
      cases hf : f x with
      | none =>
        obtain ⟨u', h⟩ := ih (fun y hy => ht y (List.mem_cons_of_mem _ hy)) acc _ (by omega) ⟨.fz (g x), rfl⟩
        exact ⟨u', by simp only [List.filterMap_cons, hf]; exact h⟩
      | some d =>
        obtain ⟨u', h⟩ := ih (fun y hy => ht y (List.mem_cons_of_mem _ hy)) (acc ++ [d]) _ (by simp; omega) ⟨.fz (g x), rfl⟩
        refine ⟨u', ?_⟩
        simp only [List.filterMap_cons, hf]
        rw [if_pos (by omega)]
        rw [List.append_assoc] at h
        exact h
  rw [ev, hs, Rs.bind_ok]
  show (if dull e1 [j] = true then _ else _) = _
  rw [if_pos hd]
  have hset : ∃ u, lockE lk e1 = (lockE lk e1).set j u := by
    cases lk with
    | none =>
      refine ⟨s, List.ext_getElem? fun i => ?_⟩
      show e1[i]? = (e1.set j s)[i]?
      rw [List.getElem?_set]
      split
      next h => subst h; exact hj
      next => rfl
    | some p =>
      obtain ⟨i, s0⟩ := p
      obtain ⟨n1, n2⟩ := hlk i s0 rfl
      refine ⟨s, List.ext_getElem? fun k => ?_⟩
      show (e1.set i (pinS s0))[k]? = ((e1.set i (pinS s0)).set j s)[k]?
      rw [List.getElem?_set (i := j)]
      by_cases hk2 : j = k
      · subst hk2
        rw [List.getElem?_set, if_neg n1, if_pos rfl, List.length_set, if_pos hlen, hj]
      · rw [if_neg hk2]
  obtain ⟨u, h⟩ := key xs ht [] (lockE lk e1) (by simpa using hl) hset
  have h1' := congrArg (fun (r : Rs (List D)) => (Rs.noex r).bind fun ds e2 => Rs.ok (RV.ow 1 (D.lst ds)) (unlockE lk (undo e1 e2 [j]))) h
  refine h1'.trans ?_
  show Rs.ok (RV.ow 1 (D.lst ([] ++ xs.filterMap f))) (unlockE lk (undo e1 ((lockE lk e1).set j u) [j])) = _
  rw [un_lock, List.nil_append]
end
end Mi.Px
end
section
set_option Elab.async false
set_option linter.all false
set_option maxRecDepth 100000
namespace Mi.Px
open PySem L2
section
variable {Φ : Calls} {W : Nat} {env : Env}
theorem dcLoop_ok {β : Type} {lk : Option (Nat × SV)} {turn : D → Env → Rs (Option (Key × D))} (g : β → D) (f : β → Key × D) (J : Env → Prop) : ∀ (xs : List β) (acc : List Key × List D) (e : Env), J e → acc.1.length + xs.length ≤ lim →
    (∀ x ∈ xs, ∀ e, J e → held lk e = true ∧ ∃ e2, turn (g x) e = .ok (some (f x)) e2 ∧ J e2) → (∀ e, J e → held lk e = true) →
    ∃ e', dcLoop lk turn (xs.map g) acc e = .ok (xs.foldl (fun a x => put (f x).1 (f x).2 a.1 a.2) acc) e' ∧ J e'
  | [], acc, e, h0, _, _, he => ⟨e, by simp [dcLoop, he _ h0], h0⟩
  | x :: xs, acc, e, h0, hl, hs, he => by
    obtain ⟨h1, e2, h2, h3⟩ := hs x (List.mem_cons_self ..) e h0
    simp only [List.map_cons, dcLoop, h1, if_true, h2, Rs.bind_ok]
    simp only [List.length_cons] at hl
    rw [if_pos (by omega)]
    refine dcLoop_ok g f J xs _ e2 h3 ?_ (fun y hy => hs y (List.mem_cons_of_mem _ hy)) he
    have : (put (f x).1 (f x).2 acc.1 acc.2).1.length ≤ acc.1.length + 1 := by
      unfold put; split <;> simp
    show (put (f x).1 (f x).2 acc.1 acc.2).1.length + xs.length ≤ lim
    omega
def turn2 (Φ : Calls) (c : Option Ex) (k e : Ex) (en2 : Env) : Rs (Option (Key × D)) := (evc Φ c en2).bind fun b en3 => if b then (ev Φ k en3).bind fun rk en4 => (match rk with
            | .fz kd => (match kd.key with
              | some k => (ev Φ e en4).bind fun r en5 => (match keep en5 r with
                | some (x, en6) => .ok (some (k, x)) en6
                | none => .no)
              | none => .no)
            | _ => .no) else .ok none en3
theorem ev_dcp {β : Type} {own : List (Str × Nat)} {tg : Tg} {src : Ex} {c : Option Ex} {k e : Ex} {xs : List β} {g : β → D} (f : β → Key × D) {lk : Option (Nat × SV)} {e1 : Env} (J : Env → Prop) (hs : evi Φ src env = .ok (xs.map g, lk) e1) (hd : dull e1 (own.map (·.2)) = true) (hl : xs.length ≤ lim)
    (h0 : J (lockE lk e1))
    (ht : ∀ x ∈ xs, ∀ en, J en → ∃ en2, tgt tg (g x) (wipes en (own.map (·.2))) = some en2 ∧ ∃ en3, turn2 Φ c k e en2 = .ok (some (f x)) en3 ∧ J en3)
    (hh : ∀ en, J en → held lk en = true ∧ unlockE lk (undo e1 en (own.map (·.2))) = e1) :
    ev Φ (.dcp own tg src c k e) env = .ok (.ow 1 (.dk (xs.foldl (fun a x => put (f x).1 (f x).2 a.1 a.2) ([], [])).1 (xs.foldl (fun a x => put (f x).1 (f x).2 a.1 a.2) ([], [])).2)) e1 := by
  rw [ev, hs, Rs.bind_ok]
  let turn : D → Env → Rs (Option (Key × D)) := fun d en => match tgt tg d (wipes en (own.map (·.2))) with
        | some en2 => (evc Φ c en2).bind fun b en3 => if b then (ev Φ k en3).bind fun rk en4 => (match rk with
            | .fz kd => (match kd.key with
              | some k => (ev Φ e en4).bind fun r en5 => (match keep en5 r with
                | some (x, en6) => .ok (some (k, x)) en6
                | none => .no)
              | none => .no)
            | _ => .no) else .ok none en3
        | none => .no
  have hturn : ∀ x ∈ xs, ∀ en, J en → held lk en = true ∧ ∃ e2, turn (g x) en = .ok (some (f x)) e2 ∧ J e2 := by
    intro x hx en hi
    obtain ⟨en2, h1, en3, h2, h3⟩ := ht x hx en hi
    refine ⟨(hh en hi).1, en3, ?_, h3⟩
    show (match tgt tg (g x) (wipes en (own.map (·.2))) with | some en2 => _ | none => _) = _
    rw [h1]
    exact h2
  obtain ⟨en, h1, h2⟩ := dcLoop_ok (lk := lk) (turn := turn) g f J xs ([], []) (lockE lk e1) h0 (by simpa using hl) hturn (fun e h => (hh e h).1)
  show (if dull e1 (own.map (·.2)) = true then _ else _) = _
  rw [if_pos hd]
  have h1' := congrArg (fun (r : Rs (List Key × List D)) => (Rs.noex r).bind fun ds e2 => Rs.ok (RV.ow 1 (D.dk ds.1 ds.2)) (unlockE lk (undo e1 e2 (own.map (·.2))))) h1
  refine h1'.trans ?_
  exact congrArg (Rs.ok _) (hh en h2).2
end
/-! a def that is run -/
theorem run_def {W : Nat} {ds : List Df} {n f : Nat} {ss : List SV} {d : Fd} {Q : RV → List SV → Prop} {X : Exn → Prop} (hd : ds[f]? = some (.ir d)) (hl : ss.length = d.np)
    (h : wp (exc (runs W ds n) W d.body (d.start ss)) (fun fl env => match fl with
      | .nx => ∃ ts, argOuts env 0 ss = some ts ∧ Q (.fz .non) ts
      | .ret r => ∃ ts, argOuts env 0 ss = some ts ∧ Q r ts
      | _ => False) X) : (∃ r ts, runs W ds (n + 1) f ss = .ok r ts ∧ Q r ts) ∨ ∃ x, runs W ds (n + 1) f ss = .ex x ∧ X x := by
  have e : runs W ds (n + 1) f ss = d.run (runs W ds n) W ss := by
    show (match ds[f]? with | some d => d.run (runs W ds n) W ss | none => .no) = _
    rw [hd]; rfl
  rw [e]
  unfold Fd.run
  rw [if_pos hl]
  cases hx : exc (runs W ds n) W d.body (d.start ss) with
  | no => rw [hx] at h; cases h
  | ex x => rw [hx] at h; exact .inr ⟨x, rfl, wp_ex.1 h⟩
  | ok fl env =>
    rw [hx, wp_ok] at h
    cases fl with
    | nx => obtain ⟨ts, h1, h2⟩ := h; exact .inl ⟨_, ts, by simp only [h1], h2⟩
    | ret r => obtain ⟨ts, h1, h2⟩ := h; exact .inl ⟨r, ts, by simp only [h1], h2⟩
    | brk => exact h.elim
    | cnt => exact h.elim
/-- gives what, at arguments -/
def Gives (W : Nat) (ds : List Df) (n f : Nat) (ss : List SV) (Q : RV → List SV → Prop) : Prop := ∃ r ts, runs W ds n f ss = .ok r ts ∧ Q r ts
theorem gives_def {W : Nat} {ds : List Df} {n f : Nat} {ss : List SV} {d : Fd} {Q : RV → List SV → Prop} (hd : ds[f]? = some (.ir d)) (hl : ss.length = d.np)
    (h : wp (exc (runs W ds n) W d.body (d.start ss)) (fun fl env => match fl with
      | .nx => ∃ ts, argOuts env 0 ss = some ts ∧ Q (.fz .non) ts
      | .ret r => ∃ ts, argOuts env 0 ss = some ts ∧ Q r ts
      | _ => False) (fun _ => False)) : ∃ r ts, runs W ds (n + 1) f ss = .ok r ts ∧ Q r ts := by
  rcases run_def hd hl h with h | ⟨_, _, h⟩
  · exact h
  · exact h.elim
theorem eq_def {W : Nat} {ds : List Df} {n f : Nat} {ss : List SV} {d : Fd} {r : RV} {ts : List SV} (hd : ds[f]? = some (.ir d)) (hl : ss.length = d.np)
    (h : wp (exc (runs W ds n) W d.body (d.start ss)) (fun fl env => match fl with
      | .nx => argOuts env 0 ss = some ts ∧ r = .fz .non
      | .ret r' => argOuts env 0 ss = some ts ∧ r' = r
      | _ => False) (fun _ => False)) : runs W ds (n + 1) f ss = .ok r ts := by
  obtain ⟨r', ts', h1, rfl, rfl⟩ := gives_def (Q := fun r' ts' => r' = r ∧ ts' = ts) hd hl (wp_mono h (fun fl e h => by
    cases fl with
    | nx => exact ⟨_, h.1, h.2.symm, rfl⟩
    | ret _ => exact ⟨_, h.1, h.2, rfl⟩
    | brk => exact h
    | cnt => exact h) (fun _ h => h))
  exact h1
theorem ex_def {W : Nat} {ds : List Df} {n f : Nat} {ss : List SV} {d : Fd} {x : Exn} (hd : ds[f]? = some (.ir d)) (hl : ss.length = d.np)
    (h : wp (exc (runs W ds n) W d.body (d.start ss)) (fun _ _ => False) (fun y => y = x)) : runs W ds (n + 1) f ss = .ex x := by
  rcases run_def (Q := fun _ _ => False) hd hl (wp_mono h (fun fl e h => h.elim) (fun _ h => h)) with ⟨_, _, _, h'⟩ | ⟨y, h', e⟩
  · exact h'.elim
  · rw [h', e]
/-! data -/
abbrev sts (xs : List Str) : List D := xs.map D.str
def okS (x : Str) : Bool := PyData.canLay0 (.str x)
theorem toPs_map (xs : List Str) : toPs (sts xs) = xs.map PyData.str := by
  induction xs with
  | nil => rfl
  | cons a r ih => simp [toPs, D.toP]; exact ih
mutual
/-- no dict within, its texts can be laid, and not deeper than n -/
def okd : Nat → D → Bool
  | _, .non | _, .bl _ | _, .int _ => true
  | _, .str x => okS x
  | n + 1, .tup ds => okds n ds
  | n + 1, .lst ds => okds n ds
  | _, _ => false
termination_by structural _ d => d
def okds : Nat → List D → Bool
  | _, [] => true
  | n, d :: ds => okd n d && okds n ds
termination_by structural _ d => d
end
theorem okds_all : ∀ {n : Nat} {ds : List D}, okds n ds = true ↔ ∀ d ∈ ds, okd n d = true
  | n, [] => by simp [okds]
  | n, d :: ds => by simp [okds, okds_all (ds := ds)]
mutual
theorem okd_lay : ∀ (n : Nat) (d : D), okd n d = true → d.toP.canLay0 = true ∧ d.toP.depth ≤ n
  | _, .non, _ => by simp [D.toP, PyData.canLay0, PyData.depth]
  | _, .bl _, _ => by simp [D.toP, PyData.canLay0, PyData.depth]
  | _, .int _, _ => by simp [D.toP, PyData.canLay0, PyData.depth]
  | _, .str x, h => by
    simp only [okd] at h
    exact ⟨h, by simp [D.toP, PyData.depth]⟩
  | n + 1, .tup ds, h => by
    simp only [okd] at h
    have := okds_lay n ds h
    exact ⟨by simpa [D.toP, PyData.canLay0] using this.1, by simpa [D.toP, PyData.depth] using this.2⟩
  | n + 1, .lst ds, h => by
    simp only [okd] at h
    have := okds_lay n ds h
    exact ⟨by simpa [D.toP, PyData.canLay0] using this.1, by simpa [D.toP, PyData.depth] using this.2⟩
  | 0, .tup ds, h => by simp [okd] at h
  | 0, .lst ds, h => by simp [okd] at h
  | n, .dk _ _, h => by simp [okd] at h
  | n, .dt _ _, h => by simp [okd] at h
theorem okds_lay : ∀ (n : Nat) (ds : List D), okds n ds = true → PyData.canLayAll0 (toPs ds) = true ∧ PyData.depthAll (toPs ds) ≤ n
  | _, [], _ => by simp [toPs, PyData.canLayAll0, PyData.depthAll]
  | n, d :: ds, h => by
    simp only [okds, Bool.and_eq_true] at h
    have h1 := okd_lay n d h.1
    have h2 := okds_lay n ds h.2
    exact ⟨by simp [toPs, PyData.canLayAll0, h1.1, h2.1], by simp only [toPs, PyData.depthAll]; omega⟩
end
theorem okd_shaped {n : Nat} {d : D} (h : okd n d = true) (hn : n ≤ 64) : SeqAt.shaped d.toP = true := by
  have := okd_lay n d h
  simp [SeqAt.shaped, this.1]; omega
/-- == of the same data -/
theorem deq_refl {n : Nat} {d : D} (h : okd n d = true) (hn : n ≤ 64) : deq d d = some true := by
  unfold deq
  split
  · simp
  · simp [okd_shaped h hn, SeqAt.eqv_refl _ (okd_lay n d h).1]
theorem eqvAll_strs : ∀ (xs ys : List Str), PyData.eqvAll (toPs (sts xs)) (toPs (sts ys)) = decide (xs = ys)
  | [], [] => by simp [toPs, PyData.eqvAll]
  | [], _ :: _ => by simp [toPs, PyData.eqvAll]
  | _ :: _, [] => by simp [toPs, PyData.eqvAll]
  | x :: xs, y :: ys => by
    have := eqvAll_strs xs ys
    simp only [sts] at this
    simp [toPs, PyData.eqvAll, this, D.toP, PyData.eqv, Bool.beq_eq_decide_eq]
theorem okds_strs {n : Nat} {xs : List Str} (h : ∀ x ∈ xs, okS x = true) : okds n (sts xs) = true := by
  rw [okds_all]; intro d hd; simp only [sts, List.mem_map] at hd; obtain ⟨x, hx, rfl⟩ := hd; simp [okd, h x hx]
theorem deq_lst {n : Nat} {a b : List D} (ha : okd n (.lst a) = true) (hb : okd n (.lst b) = true) (hn : n ≤ 64) : deq (.lst a) (.lst b) = some (PyData.eqvAll (toPs a) (toPs b)) := by
  unfold deq
  rw [if_neg (by simp [D.flat]), if_pos (by simp [okd_shaped ha hn, okd_shaped hb hn])]
  simp [D.toP, PyData.eqv]
theorem deq_tup {n : Nat} {a b : List D} (ha : okd n (.tup a) = true) (hb : okd n (.tup b) = true) (hn : n ≤ 64) : deq (.tup a) (.tup b) = some (PyData.eqvAll (toPs a) (toPs b)) := by
  unfold deq
  rw [if_neg (by simp [D.flat]), if_pos (by simp [okd_shaped ha hn, okd_shaped hb hn])]
  simp [D.toP, PyData.eqv]
theorem deq_strs {xs ys : List Str} (hx : ∀ x ∈ xs, okS x = true) (hy : ∀ x ∈ ys, okS x = true) : deq (.lst (sts xs)) (.lst (sts ys)) = some (decide (xs = ys)) := by
  rw [deq_lst (n := 1) (by simp [okd]; exact okds_strs hx) (by simp [okd]; exact okds_strs hy) (by omega), eqvAll_strs]
theorem deq_tstrs {xs ys : List Str} (hx : ∀ x ∈ xs, okS x = true) (hy : ∀ x ∈ ys, okS x = true) : deq (.tup (sts xs)) (.tup (sts ys)) = some (decide (xs = ys)) := by
  rw [deq_tup (n := 1) (by simp [okd]; exact okds_strs hx) (by simp [okd]; exact okds_strs hy) (by omega), eqvAll_strs]
/-- d == [] -/
theorem deq_nil {n : Nat} {a : List D} (ha : okd (n + 1) (.lst a) = true) (hn : n + 1 ≤ 64) : deq (.lst a) (.lst []) = some a.isEmpty := by
  rw [deq_lst ha (by simp [okd, okds]) hn]
  cases a <;> simp [toPs, PyData.eqvAll]
@[simp] theorem deq_int {i j : Int} : deq (.int i) (.int j) = some (decide (i = j)) := by simp [deq, D.toV, scal, D.flat]
@[simp] theorem deq_bl {i j : Bool} : deq (.bl i) (.bl j) = some (decide (i = j)) := by simp [deq, D.toV, scal, D.flat]
@[simp] theorem deq_str {i j : Str} : deq (.str i) (.str j) = some (decide (i = j)) := by simp [deq, D.toV, scal, D.flat]
theorem flat_strs (xs : List Str) : (sts xs).all D.flat = true := by simp [D.flat]
theorem inD_strs (x : Str) (xs : List Str) : inD (.str x) (sts xs) = decide (x ∈ xs) := by
  unfold inD
  rw [Bool.eq_iff_iff]
  simp [D.toV, eqV, List.any_eq_true]
@[simp] theorem din_lst {x : Str} {xs : List Str} : din (.str x) (.lst (xs.map D.str)) = some (decide (x ∈ xs)) := by
  unfold din
  simp only [show (xs.map D.str).all D.flat = true from flat_strs xs, D.flat, Bool.and_self, if_true]
  rw [show inD (.str x) (xs.map D.str) = _ from inD_strs x xs]
@[simp] theorem din_tup {x : Str} {xs : List Str} : din (.str x) (.tup (xs.map D.str)) = some (decide (x ∈ xs)) := by
  unfold din
  simp only [show (xs.map D.str).all D.flat = true from flat_strs xs, D.flat, Bool.and_self, if_true]
  rw [show inD (.str x) (xs.map D.str) = _ from inD_strs x xs]
/-- a dict whose keys are texts and whose values are all True -/
def setD (ks : List Str) : D := .dk (ks.map Sum.inr) (ks.map fun _ => .bl true)
theorem look_set (k : Str) : ∀ (ks : List Str), (look (Sum.inr k : Key) (ks.map Sum.inr) (ks.map fun _ => D.bl true)).isSome = decide (k ∈ ks)
  | [] => by simp [look]
  | a :: ks => by
    have := look_set k ks
    simp only [List.map_cons, look]
    by_cases h : a = k
    · simp [h]
    · simp only [Sum.inr.injEq, h, if_false, this]
      simp [show ¬ k = a from fun h' => h h'.symm]
@[simp] theorem din_set {x : Str} {ks : List Str} : din (.str x) (setD ks) = some (decide (x ∈ ks)) := by
  unfold setD din
  simp [D.key, look_set]
theorem repl_set (k : Str) : ∀ (ks : List Str), repl (Sum.inr k : Key) (D.bl true) (ks.map Sum.inr) (ks.map fun _ => D.bl true) = ks.map fun _ => D.bl true
  | [] => rfl
  | a :: ks => by
    simp only [List.map_cons, repl, repl_set k ks]
    simp
theorem put_set (k : Str) (ks : List Str) : put (Sum.inr k : Key) (D.bl true) (ks.map Sum.inr) (ks.map fun _ => D.bl true) = ((if k ∈ ks then ks else ks ++ [k]).map Sum.inr, (if k ∈ ks then ks else ks ++ [k]).map fun _ => D.bl true) := by
  unfold put
  by_cases h : k ∈ ks
  · rw [if_pos (by simpa using h), if_pos h, repl_set]
  · rw [if_neg (by simpa using h), if_neg h]; simp
theorem dput_set {k : Str} {ks : List Str} (h : ks.length < lim) : dput (setD ks) (.str k) (.bl true) = some (setD (if k ∈ ks then ks else ks ++ [k])) := by
  unfold setD dput
  simp only [D.key, Option.map_some, put_set, List.length_map]
  rw [if_pos h]
@[simp] theorem sidx_set {k : Str} {ks : List Str} (h : ks.length < lim) : sidxD (setD ks) (.str k) (.bl true) = some (setD (if k ∈ ks then ks else ks ++ [k])) := dput_set h
end Mi.Px
end
section
set_option Elab.async false
set_option linter.all false
set_option maxRecDepth 100000
namespace Mi.Px
open PySem L2
/-- a slot that is a sequence, lent or frozen -/
inductive Sq : SV → List D → Prop
  | l {ds} : Sq (.fz (.lst ds)) ds
  | t {ds} : Sq (.fz (.tup ds)) ds
  | p {ds} : Sq (.pn 1 (.lst ds)) ds
def lkOf (i : Nat) : SV → Option (Nat × SV)
  | .fz _ => none
  | s => some (i, s)
section
variable {Φ : Calls} {W : Nat} {env : Env} {s : SV} {ds : List D} {i : Nat}
theorem evi_sq (h : Sq s ds) (e : env[i]? = some s) : evi Φ (.seq (.var i)) env = .ok (ds, lkOf i s) env := by
  cases h <;> simp [rd, e, source, obj, lkOf]
theorem evi_sq_enm (h : Sq s ds) (e : env[i]? = some s) : evi Φ (.enm (.var i)) env = .ok (enumD 0 ds, lkOf i s) env := by
  cases h <;> simp [rd, e, source, obj, lkOf, isStr]
theorem held_sq (h : Sq s ds) (e : env[i]? = some s) : held (lkOf i s) env = true := by
  cases h <;> simp [lkOf, held, e, pinS]
theorem set_same {i : Nat} {s : SV} {env : Env} (e : env[i]? = some s) : env.set i s = env := by
  have hl : i < env.length := by
    rcases Nat.lt_or_ge i env.length with h | h
    · exact h
    · rw [List.getElem?_eq_none h] at e; cases e
  refine List.ext_getElem? fun k => ?_
  rw [List.getElem?_set]
  split
  next h => subst h; exact e.symm
  next => rfl
theorem lock_sq (h : Sq s ds) (e : env[i]? = some s) : lockE (lkOf i s) env = env := by
  cases h <;> simp [lkOf, lockE, pinS, set_same e]
theorem unlock_sq (h : Sq s ds) (e : env[i]? = some s) : unlockE (lkOf i s) env = env := by
  cases h <;> simp [lkOf, unlockE, set_same e]
theorem argOut_sq (h : Sq s ds) (e : env[i]? = some s) : argOut env i s = some s := by
  cases h <;> simp [argOut, e]
def fr : SV → Bool
  | .pn _ _ => false
  | _ => true
@[simp] theorem fr_fz {d} : fr (.fz d) = true := rfl
@[simp] theorem fr_ow {n d} : fr (.ow n d) = true := rfl
@[simp] theorem fr_un : fr .un = true := rfl
@[simp] theorem free_eq : free env i = match env[i]? with
    | some s => fr s
    | none => false := by
  unfold free
  split <;> simp_all [fr]
@[simp] theorem store_fz {d : D} : store env i (.fz d) = if free env i then some (env.set i (.fz d)) else none := rfl
@[simp] theorem store_ow {n : Nat} {d : D} : store env i (.ow n d) = if free env i then some (env.set i (.ow n d)) else none := rfl
@[simp] theorem tgt_nm {d : D} : tgt (.nm i) d env = store env i (.fz d) := by rw [tgt]
@[simp] theorem tgt_tp {ts : List Tg} {ds : List D} : tgt (.tp ts) (.tup ds) env = tgts ts ds env := by rw [tgt]
@[simp] theorem tgts_nil : tgts [] [] env = some env := by rw [tgts]
@[simp] theorem tgts_cons {t ts d} {ds : List D} : tgts (t :: ts) (d :: ds) env = (tgt t d env).bind fun e => tgts ts ds e := by rw [tgts]
@[simp] theorem argOuts_nil {k : Nat} : argOuts env k [] = some [] := rfl
@[simp] theorem argOuts_cons {k : Nat} {r : List SV} : argOuts env k (s :: r) = (argOut env k s).bind fun t => (argOuts env (k + 1) r).map (t :: ·) := rfl
@[simp] theorem argOut_fz {d : D} : argOut env i (.fz d) = some (.fz d) := rfl
@[simp] theorem argOut_pn {n : Nat} {d : D} : argOut env i (.pn n d) = match env[i]? with
    | some (.pn m e) => some (.pn m e)
    | _ => none := rfl
/-! reading and lending a slot that is a sequence -/
def rv (i : Nat) : SV → RV
  | .fz d => .fz d
  | _ => .vw i
theorem rd_sq (h : Sq s ds) (e : env[i]? = some s) : rd env i = some (rv i s) := by
  cases h <;> simp [rd, e, rv]
theorem see_sq (h : Sq s ds) (e : env[i]? = some s) : see env (rv i s) = some (match s with | .fz (.tup _) => .tup ds | _ => .lst ds) := by
  cases h <;> simp [rv, see, obj, e, flatter]
theorem look1_sq (h : Sq s ds) (e : env[i]? = some s) : look1 env (rv i s) = some (match s with | .fz (.tup _) => .tup ds | _ => .lst ds) := by
  cases h <;> simp [rv, look1, see, obj, e, flatter]
theorem lend_sq (h : Sq s ds) (e : env[i]? = some s) : lend env (rv i s) = some s := by
  cases h <;> simp [rv, lend, obj, e]
theorem didx_sq {k : D} : didx (match s with | .fz (.tup _) => .tup ds | _ => .lst ds) k = didx (.lst ds) k := by
  split <;> (cases k <;> rfl)
theorem len_sq : bltin .len [match s with | .fz (.tup _) => .tup ds | _ => .lst ds] = some (.int ds.length) := by
  split <;> rfl
theorem din_sq {x : Str} {xs : List Str} : din (.str x) (match s with | .fz (.tup _) => .tup (xs.map D.str) | _ => .lst (xs.map D.str)) = some (decide (x ∈ xs)) := by
  split <;> simp
end
theorem getElem_of_eq {α : Type} {l : List α} {i : Nat} {a : α} (h : l[i]? = some a) : l[i]? = some a := h
/-- a rule as data -/
def rl (r : List Str × List Str) : D := .tup [.tup (r.1.map D.str), .tup (r.2.map D.str)]
@[simp] theorem didx_rl0 {r} : didx (rl r) (.int 0) = some (.tup (r.1.map D.str)) := by simp [rl, didx, atI, ixN]
@[simp] theorem didx_rl1 {r} : didx (rl r) (.int 1) = some (.tup (r.2.map D.str)) := by simp [rl, didx, atI, ixN]
theorem enumD_map {β : Type} (g : β → D) : ∀ (xs : List β) (k : Nat), enumD k (xs.map g) = (xs.zipIdx k).map fun p => D.tup [.int (p.2 : Int), g p.1]
  | [], _ => rfl
  | x :: xs, k => by simp [enumD, enumD_map g xs (k + 1)]
theorem atI_nat {α : Type} {xs : List α} {i : Nat} (h : i < xs.length) : atI xs (i : Int) = xs[i]? := by
  unfold atI ixN
  rw [if_pos (by omega), if_pos (by omega)]
  simp
@[simp] theorem didx_t0 {a : D} {r : List D} : didx (.tup (a :: r)) (.int 0) = some a := by simp [didx, atI, ixN]
@[simp] theorem didx_t1 {a b : D} {r : List D} : didx (.tup (a :: b :: r)) (.int 1) = some b := (atI_nat (xs := a :: b :: r) (i := 1) (by simp)).trans rfl
@[simp] theorem didx_l0 {a : D} {r : List D} : didx (.lst (a :: r)) (.int 0) = some a := by simp [didx, atI, ixN]
@[simp] theorem didx_l1 {a b : D} {r : List D} : didx (.lst (a :: b :: r)) (.int 1) = some b := (atI_nat (xs := a :: b :: r) (i := 1) (by simp)).trans rfl
@[simp] theorem tgtO_nil {n : Nat} {env : Env} : tgtO n [] [] env = some env := by rw [tgtO]
@[simp] theorem tgtO_cons {n i : Nat} {ts : List Tg} {d : D} {ds : List D} {env : Env} : tgtO n (.nm i :: ts) (d :: ds) env = (store env i (if n = 0 then .fz d else .ow n d)).bind fun e => tgtO n ts ds e := by rw [tgtO]
theorem atI_int {α : Type} {xs : List α} {i : Int} (h0 : 0 ≤ i) (h : i < xs.length) : atI xs i = xs[i.toNat]? := by
  unfold atI ixN
  rw [if_pos h0, if_pos h]
  simp
end Mi.Px
end
section
set_option Elab.async false
set_option linter.all false
set_option maxRecDepth 100000
namespace Mi.Px
open PySem L2
section
variable {env : Env} {i : Nat} {d : D} {rs : List RV}
@[simp] theorem rd_eq : rd env i = match env[i]? with
  | some (.fz d) => some (.fz d)
  | some (.ow _ _) => some (.vw i)
  | some (.pn _ _) => some (.vw i)
  | _ => none := rfl
@[simp] theorem obj_eq : obj env i = match env[i]? with
  | some (.ow n d) => some (n, d)
  | some (.pn n d) => some (n, d)
  | _ => none := rfl
@[simp] theorem flatter_lst {ds} : flatter 1 (.lst ds) = some (.lst ds) := rfl
@[simp] theorem flatter_dk {ks ds} : flatter 1 (.dk ks ds) = some (.dk ks ds) := rfl
@[simp] theorem flatter_dt {ks ds} : flatter 1 (.dt ks ds) = some (.dt ks ds) := rfl
@[simp] theorem flatter_set {ks} : flatter 1 (setD ks) = some (setD ks) := rfl
@[simp] theorem see_fz : see env (.fz d) = some d := rfl
@[simp] theorem see_ow {n} : see env (.ow n d) = flatter n d := rfl
@[simp] theorem see_vw : see env (.vw i) = (obj env i).bind fun p => flatter p.1 p.2 := rfl
@[simp] theorem look1_fz : look1 env (.fz d) = some d := rfl
@[simp] theorem look1_ow {n} : look1 env (.ow n d) = some d := rfl
@[simp] theorem look1_vw : look1 env (.vw i) = (obj env i).bind fun p => flatter p.1 p.2 := rfl
@[simp] theorem keep_fz : keep env (.fz d) = some (d, env) := rfl
@[simp] theorem keep_ow {n} : keep env (.ow n d) = some (d, env) := rfl
@[simp] theorem keep_vw : keep env (.vw i) = match env[i]? with
    | some (.ow _ d) => some (d, env.set i (.fz d))
    | _ => none := rfl
@[simp] theorem keeps_nil : Mi.keeps [] env = some ([], env) := rfl
@[simp] theorem keeps_cons {r} : Mi.keeps (r :: rs) env = (keep env r).bind fun p => (Mi.keeps rs p.2).map fun q => (p.1 :: q.1, q.2) := rfl
@[simp] theorem looks_nil : looks env [] = some [] := rfl
@[simp] theorem looks_cons {r} : looks env (r :: rs) = (look1 env r).bind fun d => (looks env rs).map (d :: ·) := rfl
@[simp] theorem lend_fz : lend env (.fz d) = some (.fz d) := rfl
@[simp] theorem lend_ow {n} : lend env (.ow n d) = some (.pn n d) := rfl
@[simp] theorem lend_vw : lend env (.vw i) = (obj env i).map fun p => .pn p.1 p.2 := rfl
@[simp] theorem lends_nil : lends env [] = some [] := rfl
@[simp] theorem lends_cons {r} : lends env (r :: rs) = (lend env r).bind fun s => (lends env rs).map (s :: ·) := rfl
@[simp] theorem apart_nil {us} : apart [] us = true := rfl
@[simp] theorem apart_fz {us} : apart (.fz d :: rs) us = apart rs us := rfl
@[simp] theorem apart_ow {n us} : apart (.ow n d :: rs) us = apart rs us := rfl
@[simp] theorem apart_vw {us} : apart (.vw i :: rs) us = (!us.contains i && apart rs (i :: us)) := rfl
@[simp] theorem back_nil : back [] [] env = some env := rfl
@[simp] theorem back_fz {s ss} : back (.fz d :: rs) (s :: ss) env = back rs ss env := rfl
@[simp] theorem back_ow {n s ss} : back (.ow n d :: rs) (s :: ss) env = back rs ss env := rfl
@[simp] theorem back_vw {n ss} : back (.vw i :: rs) (.pn n d :: ss) env = match env[i]? with
    | some (.ow _ _) => back rs ss (env.set i (.ow n d))
    | some (.pn _ _) => back rs ss (env.set i (.pn n d))
    | _ => none := rfl
@[simp] theorem leave_fz : leave env (.fz d) = some (.fz d, env) := rfl
@[simp] theorem leave_ow {n} : leave env (.ow n d) = some (.ow n d, env) := rfl
@[simp] theorem leave_vw : leave env (.vw i) = match env[i]? with
    | some (.ow n d) => some (.ow n d, env.set i .un)
    | _ => none := rfl
@[simp] theorem store_vw {j} : store env i (.vw j) = if free env i then (match env[j]? with
      | some (.ow _ d) => some ((env.set j (.fz d)).set i (.fz d))
      | _ => none) else none := rfl
@[simp] theorem source_lst {ds} : source env (.fz (.lst ds)) = some (ds, none) := rfl
@[simp] theorem source_tup {ds} : source env (.fz (.tup ds)) = some (ds, none) := rfl
@[simp] theorem source_ow {n ds} : source env (.ow n (.lst ds)) = some (ds, none) := rfl
@[simp] theorem source_vw : source env (.vw i) = match obj env i, env[i]? with
    | some (1, .lst ds), some s => some (ds, some (i, s))
    | _, _ => none := rfl
@[simp] theorem tru_bl {b} : D.tru (.bl b) = some b := rfl
@[simp] theorem tru_int {b} : D.tru (.int b) = some (b != 0) := rfl
@[simp] theorem rv_lst {ds} : D.rv (.lst ds) = .ow 1 (.lst ds) := rfl
@[simp] theorem rv_tup {ds} : D.rv (.tup ds) = .fz (.tup ds) := rfl
@[simp] theorem rv_int {ds} : D.rv (.int ds) = .fz (.int ds) := rfl
@[simp] theorem rv_str {ds} : D.rv (.str ds) = .fz (.str ds) := rfl
@[simp] theorem rv_bl {ds} : D.rv (.bl ds) = .fz (.bl ds) := rfl
@[simp] theorem cop_eq {a b} : cop .eq a b = deq a b := rfl
@[simp] theorem cop_ne {a b} : cop .ne a b = (deq a b).map (!·) := rfl
@[simp] theorem cop_in {a b} : cop .isin a b = din a b := rfl
@[simp] theorem cop_nin {a b} : cop .notin a b = (din a b).map (!·) := rfl
@[simp] theorem cop_lt {a b} : cop .lt (.int a) (.int b) = some (decide (a < b)) := rfl
@[simp] theorem cop_le {a b} : cop .le (.int a) (.int b) = some (decide (a ≤ b)) := rfl
@[simp] theorem cop_gt {a b} : cop .gt (.int a) (.int b) = some (decide (b < a)) := rfl
@[simp] theorem cop_ge {a b} : cop .ge (.int a) (.int b) = some (decide (b ≤ a)) := rfl
@[simp] theorem cop_is {a b} : cop .is (.bl a) (.bl b) = some (decide (a = b)) := rfl
@[simp] theorem cop_isn {a b} : cop .isnot (.bl a) (.bl b) = some (!decide (a = b)) := rfl
@[simp] theorem cop_isnn {d} : cop .isnot d .non = some (!(decide (d.toV = .non) && d.flat)) := by cases d <;> rfl
@[simp] theorem bop_addi {a b} : bop .add (.int a) (.int b) = some (.int (a + b)) := rfl
@[simp] theorem bop_subi {a b} : bop .sub (.int a) (.int b) = some (.int (a - b)) := rfl
@[simp] theorem bop_adds {x y} : bop .add (.str x) (.str y) = if x.length + y.length ≤ lim then some (.str (x ++ y)) else none := rfl
@[simp] theorem bop_addl {x y} : bop .add (.lst x) (.lst y) = if x.length + y.length ≤ lim then some (.lst (x ++ y)) else none := rfl
@[simp] theorem bop_addt {x y} : bop .add (.tup x) (.tup y) = if x.length + y.length ≤ lim then some (.tup (x ++ y)) else none := rfl
@[simp] theorem bop_muli {i j} : bop .mul (.int i) (.int j) = if (-(2 ^ 64) < i ∧ i < 2 ^ 64) ∨ (-(2 ^ 64) < j ∧ j < 2 ^ 64) then some (.int (i * j)) else none := rfl
@[simp] theorem bop_fdv {i j} : bop .fdv (.int i) (.int j) = if 0 < j ∧ j < 1073741824 then some (.int (i / j)) else none := rfl
@[simp] theorem bop_mod {i j} : bop .mod (.int i) (.int j) = if 0 < j then some (.int (i % j)) else none := rfl
@[simp] theorem bop_pow {i j} : bop .pow (.int i) (.int j) = if 0 ≤ j ∧ j ≤ 1000000 ∧ i.natAbs < 2 ^ 64 then some (.int (i ^ j.toNat)) else none := rfl
@[simp] theorem bop_muls {x j} : bop .mul (.str x) (.int j) = if x.length * j.toNat ≤ 1000 ∧ j < 1000 ∧ -1000 < j then some (.str (strMul x j)) else none := rfl
@[simp] theorem blt_lenl {ds} : bltin .len [.lst ds] = some (.int ds.length) := rfl
@[simp] theorem blt_lent {ds} : bltin .len [.tup ds] = some (.int ds.length) := rfl
@[simp] theorem blt_inti {j} : bltin .int [.int j] = some (.int j) := rfl
@[simp] theorem blt_intb {b} : bltin .int [.bl b] = some (.int (if b then 1 else 0)) := rfl
@[simp] theorem blt_abs {j} : bltin .abs [.int j] = some (.int (if j < 0 then -j else j)) := rfl
@[simp] theorem blt_all {ds} : bltin .all [.lst ds] = (D.bls ds).map fun bs => .bl (bs.all id) := rfl
@[simp] theorem blt_tupl {ds} : bltin .tuple [.lst ds] = some (.tup ds) := rfl
@[simp] theorem blt_tupt {ds} : bltin .tuple [.tup ds] = some (.tup ds) := rfl
@[simp] theorem blt_listl {ds} : bltin .list [.lst ds] = some (.lst ds) := rfl
@[simp] theorem blt_listt {ds} : bltin .list [.tup ds] = some (.lst ds) := rfl
@[simp] theorem blt_rev {ds} : bltin .listrev [.lst ds] = some (.lst ds.reverse) := rfl
@[simp] theorem mut_app {ds a} : mutate .app 1 (.lst ds) [a] = if ds.length < lim then some (.fz .non, .lst (ds ++ [a])) else none := rfl
@[simp] theorem fits_app {n ds} : mutFits .app (some (n, .lst ds)) = true := rfl
@[simp] theorem fits_index {ds} : metFits .index (some (.lst ds)) = true := rfl
@[simp] theorem dslc_l {ds lo hi} : dslc (.lst ds) lo hi = some (.lst (cutD ds lo hi)) := rfl
@[simp] theorem dslc_t {ds lo hi} : dslc (.tup ds) lo hi = some (.tup (cutD ds lo hi)) := rfl
@[simp] theorem isStr_vw : isStr (.vw i) = false := rfl
@[simp] theorem isStr_lst {ds} : isStr (.fz (.lst ds)) = false := rfl
@[simp] theorem isStr_tup {ds} : isStr (.fz (.tup ds)) = false := rfl
@[simp] theorem wipes_nil : wipes env [] = env := rfl
@[simp] theorem wipes_cons {is} : wipes env (i :: is) = (wipes env is).set i .un := rfl
@[simp] theorem undo_nil {old} : undo old env [] = env := rfl
@[simp] theorem undo_cons {old is} : undo old env (i :: is) = (undo old env is).set i (old.getD i .un) := rfl
@[simp] theorem pin_ow {n} : pinS (.ow n d) = .pn n d := rfl
@[simp] theorem pin_fz : pinS (.fz d) = .fz d := rfl
@[simp] theorem pin_pn {n} : pinS (.pn n d) = .pn n d := rfl
@[simp] theorem lock_none : lockE none env = env := rfl
@[simp] theorem lock_some {j s} : lockE (some (j, s)) env = env.set j (pinS s) := rfl
@[simp] theorem unlock_none : unlockE none env = env := rfl
@[simp] theorem unlock_some {j s} : unlockE (some (j, s)) env = env.set j s := rfl
@[simp] theorem held_none : held none env = true := rfl
@[simp] theorem held_some {j s} : held (some (j, s)) env = (env[j]? == some (pinS s)) := rfl
@[simp] theorem dull_nil : dull env [] = true := rfl
@[simp] theorem dull_cons {is} : dull env (i :: is) = ((match env[i]? with
  | some .un => true
  | some (.fz _) => true
  | _ => false) && dull env is) := rfl
end
theorem wp_step {Φ : Calls} {W : Nat} {env e' : Env} {a b : Sm} {Q : Fl → Env → Prop} {X : Exn → Prop} (h : exc Φ W a env = .ok .nx e') (k : wp (exc Φ W b e') Q X) : wp (exc Φ W (.seq a b) env) Q X := by
  rw [wp_seq, h, wp_ok]; exact k
theorem wp_step_ifs {Φ : Calls} {W : Nat} {env e' : Env} {c : Ex} {a b d : Sm} {Q : Fl → Env → Prop} {X : Exn → Prop} (h : evt Φ c env = .ok false e') (hd : d = .skip) (k : wp (exc Φ W b e') Q X) : wp (exc Φ W (.seq (.ifs c a d) b) env) Q X := by
  subst hd
  rw [wp_seq, wp_ifs, h]
  simpa using k
end Mi.Px
end
section
set_option Elab.async false
set_option linter.all false
set_option maxRecDepth 100000
namespace Mi.Px
open PySem L2
section
variable {Φ : Calls} {W : Nat} {env : Env}
theorem lcLoop_wpp {β : Type} {lk : Option (Nat × SV)} {turn : D → Env → Rs (Option D)} (g : β → D) (I : List β → List D → Env → Prop) : ∀ (xs pre : List β) (acc : List D) (e : Env), I pre acc e → acc.length + xs.length ≤ lim →
    (∀ x ∈ xs, ∀ p acc e, I p acc e → held lk e = true ∧ wp (turn (g x) e) (fun o e2 => I (p ++ [x]) (acc ++ o.toList) e2) (fun _ => False)) →
    (∀ p acc e, I p acc e → held lk e = true) → ∃ acc' e', lcLoop lk turn (xs.map g) acc e = .ok acc' e' ∧ I (pre ++ xs) acc' e'
  | [], pre, acc, e, h0, _, _, he => ⟨acc, e, by simp [lcLoop, he _ _ _ h0], by simpa using h0⟩
  | x :: xs, pre, acc, e, h0, hl, hs, he => by
    obtain ⟨h1, h2⟩ := hs x (List.mem_cons_self ..) pre acc e h0
    simp only [List.map_cons, lcLoop, h1, if_true]
    simp only [List.length_cons] at hl
    cases ht : turn (g x) e with
    | no => rw [ht] at h2; cases h2
    | ex x => rw [ht] at h2; exact (wp_ex.1 h2).elim
    | ok o e2 =>
      rw [ht, wp_ok] at h2
      rw [Rs.bind_ok]
      cases o with
      | none =>
        obtain ⟨a', e', q1, q2⟩ := lcLoop_wpp g I xs (pre ++ [x]) acc e2 (by simpa using h2) (by omega) (fun y hy => hs y (List.mem_cons_of_mem _ hy)) he
        exact ⟨a', e', q1, by simpa using q2⟩
      | some d =>
        simp only
        rw [if_pos (by omega)]
        obtain ⟨a', e', q1, q2⟩ := lcLoop_wpp g I xs (pre ++ [x]) (acc ++ [d]) e2 (by simpa using h2) (by simp; omega) (fun y hy => hs y (List.mem_cons_of_mem _ hy)) he
        exact ⟨a', e', q1, by simpa using q2⟩
theorem ev_lcpp {β : Type} {nm : Str} {j : Nat} {src : Ex} {c : Option Ex} {e : Ex} {xs : List β} {g : β → D} {lk : Option (Nat × SV)} {e1 : Env} (hs : evi Φ src env = .ok (xs.map g, lk) e1) (hd : dull e1 [j] = true) (hl : xs.length ≤ lim)
    (I : List β → List D → Env → Prop) (h0 : I [] [] ((lockE lk e1).set j .un))
    (ht : ∀ x ∈ xs, ∀ p acc en, I p acc en → ∃ en2, tgt (.nm j) (g x) en = some en2 ∧ wp (turn1 Φ c e en2) (fun o e2 => I (p ++ [x]) (acc ++ o.toList) (e2.set j .un)) (fun _ => False))
    (hh : ∀ (p : List β) (acc : List D) (en : Env), I p acc (en.set j .un) → held lk en = true) :
    ∃ ds en, I xs ds (en.set j .un) ∧ ev Φ (.lcp [(nm, j)] (.nm j) src c e) env = .ok (.ow 1 (.lst ds)) (unlockE lk (undo e1 en [j])) := by
  rw [ev, hs, Rs.bind_ok]
  have := lcLoop_wpp (lk := lk) (turn := fun d en => match tgt (.nm j) d (wipes en [j]) with
        | some en2 => (evc Φ c en2).bind fun b en3 => if b then (ev Φ e en3).bind fun r en4 => (match keep en4 r with
            | some (x, en5) => .ok (some x) en5
            | none => .no) else .ok none en3
        | none => .no) g (fun p acc en => I p acc (en.set j .un)) xs [] [] (lockE lk e1) h0 (by simpa using hl) (fun x hx p acc en hi => ?_) (fun p acc en hi => hh p acc en hi)
  · obtain ⟨ds, en, h1, h2⟩ := this
    refine ⟨ds, en, by simpa using h2, ?_⟩
    show (if dull e1 [j] = true then _ else _) = _
    rw [if_pos hd]
    have h1' := congrArg (fun r => (Rs.noex r).bind fun ds e2 => Rs.ok (RV.ow 1 (D.lst ds)) (unlockE lk (undo e1 e2 [j]))) h1
    exact h1'
  · refine ⟨hh p acc en hi, ?_⟩
    obtain ⟨en2, h1, h2⟩ := ht x hx p acc _ hi
    show wp (match tgt (.nm j) (g x) (en.set j .un) with | some en2 => _ | none => _) _ _
    rw [h1]
    exact h2
end
end Mi.Px
end
section
set_option linter.all false
namespace Pm
variable {α : Type} [DecidableEq α]
abbrev Rule (α : Type) := List α × List α
def lacks (some known : List α) : List α := some.filter fun c => decide (c ∉ known)
theorem lacks_nil {s k : List α} : lacks s k = [] ↔ ∀ c ∈ s, c ∈ k := by
  unfold lacks; rw [List.filter_eq_nil_iff]; simp
theorem mem_lacks {s k : List α} {c : α} : c ∈ lacks s k ↔ c ∈ s ∧ c ∉ k := by
  unfold lacks; simp
/-- what follows -/
inductive Cl (rules : List (Rule α)) (left : List α) : α → Prop
  | base {c} : c ∈ left → Cl rules left c
  | step {r d} : r ∈ rules → (∀ c ∈ r.1, Cl rules left c) → d ∈ r.2 → Cl rules left d
def Closed (rules : List (Rule α)) (k : List α) : Prop := ∀ r ∈ rules, (∀ c ∈ r.1, c ∈ k) → ∀ d ∈ r.2, d ∈ k
theorem cl_sub {rules : List (Rule α)} {left k : List α} (hl : ∀ c ∈ left, c ∈ k) (hc : Closed rules k) {c : α} (h : Cl rules left c) : c ∈ k := by
  induction h with
  | base h => exact hl _ h
  | step hr _ hd ih => exact hc _ hr ih _ hd
def Within (cols : List α) (rules : List (Rule α)) : Prop := ∀ r ∈ rules, (∀ c ∈ r.1, c ∈ cols) ∧ ∀ c ∈ r.2, c ∈ cols
theorem cl_within {cols : List α} {rules : List (Rule α)} {left : List α} (hw : Within cols rules) (hl : ∀ c ∈ left, c ∈ cols) {c : α} (h : Cl rules left c) : c ∈ cols :=
  cl_sub hl (fun r hr _ d hd => (hw r hr).2 d hd) h
def msr (cols k : List α) : Nat := (cols.filter fun c => decide (c ∉ k)).length
theorem msr_le (cols k : List α) : msr cols k ≤ cols.length := List.length_filter_le _ _
theorem filter_lt {p q : α → Bool} : ∀ {l : List α}, (∀ x ∈ l, q x = true → p x = true) → (∃ x ∈ l, p x = true ∧ q x = false) → (l.filter q).length < (l.filter p).length
  | [], _, h => by obtain ⟨x, hx, _⟩ := h; cases hx
  | a :: l, hi, h => by
    have hi' : ∀ x ∈ l, q x = true → p x = true := fun x hx => hi x (List.mem_cons_of_mem _ hx)
    have le : (l.filter q).length ≤ (l.filter p).length := by
      clear h
      induction l with
      | nil => simp
      | cons b l ih =>
        have ih := ih (fun x hx => hi x (by simp at hx ⊢; cases hx <;> simp_all)) (fun x hx => hi' x (List.mem_cons_of_mem _ hx))
        have hb := hi' b (List.mem_cons_self ..)
        cases hq : q b <;> cases hp : p b <;> simp [List.filter_cons, hq, hp] <;> simp_all <;> omega
    have ha := hi a (List.mem_cons_self ..)
    obtain ⟨x, hx, h1, h2⟩ := h
    cases hx with
    | head => simp [List.filter_cons, h1, h2]; omega
    | tail _ hx =>
      have := filter_lt hi' ⟨x, hx, h1, h2⟩
      cases hq : q a <;> cases hp : p a <;> simp [List.filter_cons, hq, hp] <;> simp_all <;> omega
theorem msr_lt {cols k k' : List α} (hs : ∀ c ∈ k, c ∈ k') (h : ∃ c ∈ cols, c ∉ k ∧ c ∈ k') : msr cols k' < msr cols k := by
  unfold msr
  refine filter_lt (fun x _ h => ?_) ?_
  · simp at h ⊢; exact fun hk => h (hs x hk)
  · obtain ⟨c, h1, h2, h3⟩ := h
    exact ⟨c, h1, by simp [h2], by simp [h3]⟩
/-! the law's own reach -/
def stepL (k : List α) (r : Rule α) : List α := if lacks r.1 k = [] then k ++ lacks r.2 k else k
def roundL (rules : List (Rule α)) (k : List α) : List α := rules.foldl stepL k
def itL (rules : List (Rule α)) : Nat → List α → List α
  | 0, k => k
  | n + 1, k => itL rules n (roundL rules k)
def reach (cols : List α) (rules : List (Rule α)) (left : List α) : List α :=
  let k := itL rules (cols.length + 1) (cols.filter fun c => decide (c ∈ left))
  cols.filter fun c => decide (c ∈ k)
theorem stepL_sup (k : List α) (r : Rule α) : ∀ c ∈ k, c ∈ stepL k r := by
  intro c h; unfold stepL; split <;> simp [h]
theorem roundL_sup (rules : List (Rule α)) : ∀ (k : List α), ∀ c ∈ k, c ∈ roundL rules k := by
  induction rules with
  | nil => intro k c h; exact h
  | cons r rs ih => intro k c h; exact ih _ c (stepL_sup k r c h)
theorem roundL_grows : ∀ (rules : List (Rule α)) (k : List α), ∀ r ∈ rules, (∀ c ∈ r.1, c ∈ k) → ∀ d ∈ r.2, d ∈ roundL rules k
  | [], _, _, h, _, _, _ => by cases h
  | r' :: rs, k, r, h, hk, d, hd => by
    rcases List.mem_cons.1 h with rfl | h
    · refine roundL_sup rs _ d ?_
      unfold stepL
      rw [if_pos (lacks_nil.2 hk)]
      by_cases hd' : d ∈ k
      · simp [hd']
      · exact List.mem_append_right _ (mem_lacks.2 ⟨hd, hd'⟩)
    · exact roundL_grows rs (stepL k r') r h (fun c hc => stepL_sup k r' c (hk c hc)) d hd
theorem roundL_closed : ∀ (rules : List (Rule α)) (k : List α), Closed rules k → roundL rules k = k
  | [], _, _ => rfl
  | r :: rs, k, h => by
    have e : stepL k r = k := by
      unfold stepL
      split
      next h1 =>
        have : lacks r.2 k = [] := lacks_nil.2 (h r (List.mem_cons_self ..) (lacks_nil.1 h1))
        rw [this, List.append_nil]
      next => rfl
    show roundL rs (stepL k r) = k
    rw [e]
    exact roundL_closed rs k fun r hr => h r (List.mem_cons_of_mem _ hr)
theorem roundL_cl (all : List (Rule α)) (left : List α) : ∀ (rules : List (Rule α)) (k : List α), (∀ r ∈ rules, r ∈ all) → (∀ c ∈ k, Cl all left c) → ∀ c ∈ roundL rules k, Cl all left c
  | [], _, _, h => h
  | r :: rs, k, ha, h => by
    refine roundL_cl all left rs (stepL k r) (fun r hr => ha r (List.mem_cons_of_mem _ hr)) fun c hc => ?_
    unfold stepL at hc
    split at hc
    next h1 =>
      rcases List.mem_append.1 hc with hc | hc
      · exact h c hc
      · exact .step (ha r (List.mem_cons_self ..)) (fun c hc => h c (lacks_nil.1 h1 c hc)) (mem_lacks.1 hc).1
    next => exact h c hc
theorem closed_or {rules : List (Rule α)} {k : List α} : Closed rules k ∨ ∃ r ∈ rules, (∀ c ∈ r.1, c ∈ k) ∧ ∃ d ∈ r.2, d ∉ k := by
  by_cases h : ∃ r ∈ rules, (∀ c ∈ r.1, c ∈ k) ∧ ∃ d ∈ r.2, d ∉ k
  · exact .inr h
  · exact .inl fun r hr h1 d hd => Classical.byContradiction fun h2 => h ⟨r, hr, h1, d, hd, h2⟩
theorem itL_ok (cols : List α) (rules : List (Rule α)) (hw : Within cols rules) : ∀ (n : Nat) (k : List α), (∀ c ∈ k, c ∈ itL rules n k) ∧ (msr cols k < n → Closed rules (itL rules n k)) ∧ (Closed rules k → itL rules n k = k)
  | 0, k => ⟨fun _ h => h, fun h => absurd h (Nat.not_lt_zero _), fun _ => rfl⟩
  | n + 1, k => by
    have ih := itL_ok cols rules hw n (roundL rules k)
    refine ⟨fun c h => ih.1 c (roundL_sup rules k c h), fun h => ?_, fun h => ?_⟩
    · rcases closed_or (rules := rules) (k := k) with hc | ⟨r, hr, h1, d, hd, h2⟩
      · show Closed rules (itL rules n (roundL rules k))
        rw [roundL_closed rules k hc] at ih ⊢
        rw [ih.2.2 hc]
        exact hc
      · refine ih.2.1 ?_
        have : msr cols (roundL rules k) < msr cols k := msr_lt (roundL_sup rules k) ⟨d, (hw r hr).2 d hd, h2, roundL_grows rules k r hr h1 d hd⟩
        omega
    · show itL rules n (roundL rules k) = k
      rw [roundL_closed rules k h] at ih ⊢
      exact ih.2.2 h
theorem itL_cl (rules : List (Rule α)) (left : List α) : ∀ (n : Nat) (k : List α), (∀ c ∈ k, Cl rules left c) → ∀ c ∈ itL rules n k, Cl rules left c
  | 0, _, h => h
  | n + 1, k, h => itL_cl rules left n _ (roundL_cl rules left rules k (fun _ h => h) h)
theorem mem_reach {cols : List α} {rules : List (Rule α)} {left : List α} (hw : Within cols rules) (hl : ∀ c ∈ left, c ∈ cols) {c : α} : c ∈ reach cols rules left ↔ Cl rules left c := by
  unfold reach
  simp only [List.mem_filter, decide_eq_true_eq]
  constructor
  · rintro ⟨_, h⟩
    exact itL_cl rules left _ _ (fun c hc => .base (by simpa using (List.mem_filter.1 hc).2)) c h
  · intro h
    have hc := cl_within hw hl h
    refine ⟨hc, ?_⟩
    have := itL_ok cols rules hw (cols.length + 1) (cols.filter fun c => decide (c ∈ left))
    refine cl_sub (fun c h => this.1 c ?_) (this.2.1 ?_) h
    · simp [h, hl c h]
    · have := msr_le cols (cols.filter fun c => decide (c ∈ left)); omega
theorem reach_eq {cols : List α} {rules : List (Rule α)} {left : List α} (hw : Within cols rules) (hl : ∀ c ∈ left, c ∈ cols) (k : List α) (hk : ∀ c, c ∈ k ↔ Cl rules left c) : (cols.filter fun c => decide (c ∈ k)) = reach cols rules left := by
  have := fun c => mem_reach (c := c) hw hl
  unfold reach at this ⊢
  refine List.filter_congr fun c hc => ?_
  have t := this c
  simp only [List.mem_filter, decide_eq_true_eq, hc, true_and] at t
  rw [decide_eq_decide, hk, t]
/-! the program's reach -/
def addK (k added : List α) : List α := added.foldl (fun k c => if c ∈ k then k else k ++ [c]) k
theorem mem_addK : ∀ {added k : List α} {c : α}, c ∈ addK k added ↔ c ∈ k ∨ c ∈ added
  | [], k, c => by simp [addK]
  | a :: r, k, c => by
    have := mem_addK (added := r) (k := if a ∈ k then k else k ++ [a]) (c := c)
    show c ∈ addK _ r ↔ _
    rw [this]
    by_cases h : a ∈ k
    · rw [if_pos h]; simp; constructor
      · rintro (h | h) <;> simp [h]
      · rintro (h' | rfl | h') <;> simp_all
    · rw [if_neg h]; simp [or_assoc]
def sub (s k : List α) : Bool := s.all fun c => decide (c ∈ k)
theorem sub_iff {s k : List α} : sub s k = true ↔ ∀ c ∈ s, c ∈ k := by simp [sub]
abbrev RS (α : Type) := List α × List Nat × Bool
def stepR (s : RS α) (p : Rule α × Nat) : RS α := if sub p.1.1 s.1 = true ∧ sub p.1.2 s.1 = false then (addK s.1 p.1.2, s.2.1 ++ [p.2], true) else s
def roundR (rules : List (Rule α)) (k : List α) (u : List Nat) : RS α := (rules.zipIdx 0).foldl stepR (k, u, false)
/-- a derivation walked -/
def walkD (rules : List (Rule α)) : List α → List Int → Option (List α)
  | k, [] => some k
  | k, i :: p => if i < 0 ∨ (rules.length : Int) ≤ i then none else match rules[i.toNat]? with
    | some r => if lacks r.1 k = [] then walkD rules (k ++ r.2) p else none
    | none => none
def derives (rules : List (Rule α)) (rule : Rule α) (p : List Int) : Bool := match walkD rules rule.1 p with
  | some k => decide (lacks rule.2 k = [])
  | none => false
theorem walkD_append (rules : List (Rule α)) : ∀ (p q : List Int) (k : List α), walkD rules k (p ++ q) = (walkD rules k p).bind fun k => walkD rules k q
  | [], q, k => rfl
  | i :: p, q, k => by
    simp only [List.cons_append, walkD]
    split
    · rfl
    · split
      · split
        · exact walkD_append rules p q _
        · rfl
      · rfl
def nzs (u : List Nat) : List Int := u.map fun (n : Nat) => (n : Int)
/-- what stands through the program's walk -/
structure Inv (rules : List (Rule α)) (left : List α) (s : List α) (u : List Nat) : Prop where
  cl : ∀ c ∈ s, Cl rules left c
  lf : ∀ c ∈ left, c ∈ s
  dv : ∃ k, walkD rules left (nzs u) = some k ∧ ∀ c, c ∈ k ↔ c ∈ s
theorem inv0 (rules : List (Rule α)) (left : List α) : Inv rules left (addK [] left) [] :=
  ⟨fun c h => .base (by simpa [mem_addK] using h), fun c h => by simpa [mem_addK] using h, left, rfl, fun c => by simp [mem_addK]⟩
theorem inv_step {rules : List (Rule α)} {left : List α} {s : RS α} (h : Inv rules left s.1 s.2.1) {p : Rule α × Nat} (hp : rules[p.2]? = some p.1) : Inv rules left (stepR s p).1 (stepR s p).2.1 := by
  unfold stepR
  split
  next hc =>
    have h1 := sub_iff.1 hc.1
    refine ⟨fun c hc' => ?_, fun c hc' => mem_addK.2 (.inl (h.lf c hc')), ?_⟩
    · rcases mem_addK.1 hc' with h2 | h2
      · exact h.cl c h2
      · exact .step (List.mem_of_getElem? hp) (fun c hc => h.cl c (h1 c hc)) h2
    · obtain ⟨k, hk, hs⟩ := h.dv
      refine ⟨k ++ p.1.2, ?_, fun c => ?_⟩
      · unfold nzs
        rw [List.map_append, walkD_append]
        show ((walkD rules left (nzs s.2.1)).bind _) = _
        rw [hk]
        have hl : p.2 < rules.length := by
          rcases Nat.lt_or_ge p.2 rules.length with h | h
          · exact h
          · rw [List.getElem?_eq_none h] at hp; cases hp
        simp only [Option.bind_some, List.map_cons, List.map_nil, walkD]
        rw [if_neg (by omega)]
        simp only [Int.toNat_natCast, hp]
        rw [if_pos (lacks_nil.2 fun c hc => (hs c).2 (h1 c hc))]
      · rw [List.mem_append, mem_addK, hs]
  next => exact h
theorem fold_inv {rules : List (Rule α)} {left : List α} : ∀ (ps : List (Rule α × Nat)) (s : RS α), (∀ p ∈ ps, rules[p.2]? = some p.1) → Inv rules left s.1 s.2.1 → Inv rules left (ps.foldl stepR s).1 (ps.foldl stepR s).2.1
  | [], _, _, h => h
  | p :: ps, s, hp, h => fold_inv ps (stepR s p) (fun q hq => hp q (List.mem_cons_of_mem _ hq)) (inv_step h (hp p (List.mem_cons_self ..)))
theorem zip_get (rules : List (Rule α)) : ∀ p ∈ rules.zipIdx 0, rules[p.2]? = some p.1 := by
  intro p hp
  have := List.mem_zipIdx_iff_getElem?.1 hp
  simpa using this
theorem stepR_sup (s : RS α) (p : Rule α × Nat) : (∀ c ∈ s.1, c ∈ (stepR s p).1) ∧ (s.2.2 = true → (stepR s p).2.2 = true) := by
  unfold stepR
  split
  · exact ⟨fun c h => mem_addK.2 (.inl h), fun _ => rfl⟩
  · exact ⟨fun c h => h, fun h => h⟩
theorem foldR_sup : ∀ (ps : List (Rule α × Nat)) (s : RS α), (∀ c ∈ s.1, c ∈ (ps.foldl stepR s).1) ∧ (s.2.2 = true → (ps.foldl stepR s).2.2 = true)
  | [], s => ⟨fun _ h => h, fun h => h⟩
  | p :: ps, s => ⟨fun c h => (foldR_sup ps _).1 c ((stepR_sup s p).1 c h), fun h => (foldR_sup ps _).2 ((stepR_sup s p).2 h)⟩
/-- a round that grows makes more known; one that does not leaves all closed -/
theorem foldR_grow {cols : List α} : ∀ (ps : List (Rule α × Nat)) (s : RS α), s.2.2 = false → (∀ p ∈ ps, ∀ c ∈ p.1.2, c ∈ cols) →
    ((ps.foldl stepR s).2.2 = true → ∃ c ∈ cols, c ∉ s.1 ∧ c ∈ (ps.foldl stepR s).1) ∧
    ((ps.foldl stepR s).2.2 = false → ps.foldl stepR s = s ∧ ∀ p ∈ ps, (∀ c ∈ p.1.1, c ∈ s.1) → ∀ d ∈ p.1.2, d ∈ s.1)
  | [], s, h, _ => ⟨fun h' => (by rw [show List.foldl stepR s [] = s from rfl, h] at h'; exact absurd h' (by decide)), fun _ => ⟨rfl, fun _ h => (by cases h)⟩⟩
  | p :: ps, s, h, hw => by
    by_cases hc : sub p.1.1 s.1 = true ∧ sub p.1.2 s.1 = false
    · have e : stepR s p = (addK s.1 p.1.2, s.2.1 ++ [p.2], true) := by unfold stepR; rw [if_pos hc]
      have up := foldR_sup ps (stepR s p)
      have hn : ∃ c ∈ p.1.2, c ∉ s.1 := by
        have := hc.2
        unfold sub at this
        rw [List.all_eq_false] at this
        obtain ⟨c, h1, h2⟩ := this
        exact ⟨c, h1, by simpa using h2⟩
      obtain ⟨c, h1, h2⟩ := hn
      refine ⟨fun _ => ⟨c, hw p (List.mem_cons_self ..) c h1, h2, up.1 c ?_⟩, fun h' => ?_⟩
      · rw [e]; exact mem_addK.2 (.inr h1)
      · have := up.2 (by rw [e])
        rw [show List.foldl stepR s (p :: ps) = List.foldl stepR (stepR s p) ps from rfl, this] at h'
        cases h'
    · have e : stepR s p = s := by unfold stepR; rw [if_neg hc]
      show ((List.foldl stepR (stepR s p) ps).2.2 = true → ∃ c ∈ cols, c ∉ s.1 ∧ c ∈ (List.foldl stepR (stepR s p) ps).1) ∧ ((List.foldl stepR (stepR s p) ps).2.2 = false → List.foldl stepR (stepR s p) ps = s ∧ _)
      rw [e]
      have ih := foldR_grow ps s h (fun p hp => hw p (List.mem_cons_of_mem _ hp))
      refine ⟨ih.1, fun h' => ⟨(ih.2 h').1, fun q hq => ?_⟩⟩
      rcases List.mem_cons.1 hq with rfl | hq
      · intro h1 d hd
        have hs := sub_iff.2 h1
        have : ¬ sub q.1.2 s.1 = false := fun h => hc ⟨hs, h⟩
        exact sub_iff.1 (by simpa using this) d hd
      · exact (ih.2 h').2 q hq
def loopR (rules : List (Rule α)) : Nat → List α → List Nat → Option (List α × List Nat)
  | 0, _, _ => none
  | n + 1, k, u => let s := roundR rules k u; if s.2.2 = true then loopR rules n s.1 s.2.1 else some (s.1, s.2.1)
theorem loopR_ok {cols : List α} {rules : List (Rule α)} (hw : Within cols rules) (left : List α) : ∀ (n : Nat) (k : List α) (u : List Nat), msr cols k < n → Inv rules left k u → ∃ k' u', loopR rules n k u = some (k', u') ∧ Inv rules left k' u' ∧ ∀ c, c ∈ k' ↔ Cl rules left c
  | 0, _, _, h, _ => absurd h (Nat.not_lt_zero _)
  | n + 1, k, u, h, hi => by
    have hp : ∀ p ∈ rules.zipIdx 0, ∀ c ∈ p.1.2, c ∈ cols := fun p hp => (hw p.1 (List.mem_of_getElem? (zip_get rules p hp))).2
    have g := foldR_grow (cols := cols) (rules.zipIdx 0) (k, u, false) rfl hp
    have inv := fold_inv (rules.zipIdx 0) (k, u, false) (zip_get rules) hi
    show ∃ k' u', (if (roundR rules k u).2.2 = true then _ else _) = _ ∧ _
    by_cases hg : (roundR rules k u).2.2 = true
    · rw [if_pos hg]
      refine loopR_ok hw left n _ _ ?_ inv
      have := msr_lt (foldR_sup (rules.zipIdx 0) (k, u, false)).1 (g.1 hg)
      have e : (roundR rules k u).1 = ((rules.zipIdx 0).foldl stepR (k, u, false)).1 := rfl
      rw [e]
      have e2 : msr cols (k, u, false).1 = msr cols k := rfl
      omega
    · rw [if_neg hg]
      have hg' : (roundR rules k u).2.2 = false := by simpa using hg
      have e := (g.2 hg').1
      have e' : roundR rules k u = (k, u, false) := e
      refine ⟨_, _, rfl, inv, fun c => ?_⟩
      rw [e']
      refine ⟨hi.cl c, fun hc => cl_sub hi.lf (fun r hr h1 d hd => ?_) hc⟩
      obtain ⟨i, hir⟩ := List.getElem?_of_mem hr
      exact (g.2 hg').2 (r, i) (List.mem_zipIdx_iff_getElem?.2 (by simpa using hir)) h1 d hd
/-! papers -/
def walkK (rules : List (Rule α)) : List α → List Int → Option (List α)
  | k, [] => some k
  | k, i :: p => if 0 ≤ i ∧ i < (rules.length : Int) then match rules[i.toNat]? with
    | some r => if sub r.1 k = true then walkK rules (addK k r.2) p else none
    | none => none else none
def isDer (rules : List (Rule α)) (rule : Rule α) (p : List Int) : Bool := match walkK rules (addK [] rule.1) p with
  | some k => sub rule.2 k
  | none => false
theorem walk_alike (rules : List (Rule α)) : ∀ (p : List Int) (k l : List α), (∀ c, c ∈ k ↔ c ∈ l) → (walkD rules k p = none ∧ walkK rules l p = none) ∨ ∃ k' l', walkD rules k p = some k' ∧ walkK rules l p = some l' ∧ ∀ c, c ∈ k' ↔ c ∈ l'
  | [], k, l, h => .inr ⟨k, l, rfl, rfl, h⟩
  | i :: p, k, l, h => by
    unfold walkD walkK
    by_cases hi : i < 0 ∨ (rules.length : Int) ≤ i
    · rw [if_pos hi, if_neg (by omega)]; exact .inl ⟨rfl, rfl⟩
    · rw [if_neg hi, if_pos (by omega)]
      cases hr : rules[i.toNat]? with
      | none => exact .inl ⟨rfl, rfl⟩
      | some r =>
        have e : (lacks r.1 k = []) ↔ sub r.1 l = true := by
          rw [lacks_nil, sub_iff]
          exact ⟨fun g c hc => (h c).1 (g c hc), fun g c hc => (h c).2 (g c hc)⟩
        by_cases hs : sub r.1 l = true
        · simp only [if_pos hs, if_pos (e.2 hs)]
          exact walk_alike rules p _ _ fun c => by rw [List.mem_append, mem_addK, h]
        · simp only [if_neg hs, if_neg (fun g => hs (e.1 g))]
          exact .inl ⟨trivial, trivial⟩
theorem isDer_eq (rules : List (Rule α)) (rule : Rule α) (p : List Int) : isDer rules rule p = derives rules rule p := by
  unfold isDer derives
  rcases walk_alike rules p rule.1 (addK [] rule.1) (fun c => by simp [mem_addK]) with ⟨h1, h2⟩ | ⟨k, l, h1, h2, h⟩
  · rw [h1, h2]
  · rw [h1, h2]
    rw [Bool.eq_iff_iff]
    simp only [decide_eq_true_eq]
    rw [sub_iff, lacks_nil]
    exact ⟨fun g c hc => (h c).2 (g c hc), fun g c hc => (h c).1 (g c hc)⟩
theorem derives_inv {rules : List (Rule α)} {rule : Rule α} {k : List α} {u : List Nat} (h : Inv rules rule.1 k u) (hs : ∀ c ∈ rule.2, c ∈ k) : derives rules rule (nzs u) = true := by
  obtain ⟨k', h1, h2⟩ := h.dv
  unfold derives
  rw [h1]
  simp only [decide_eq_true_eq]
  exact lacks_nil.2 fun c hc => (h2 c).2 (hs c hc)
end Pm
end
section
set_option linter.all false
namespace Pm
variable {α : Type} [DecidableEq α]
theorem addK_nodup : ∀ {added k : List α}, k.Nodup → (addK k added).Nodup
  | [], _, h => h
  | a :: r, k, h => by
    show (addK (if a ∈ k then k else k ++ [a]) r).Nodup
    refine addK_nodup ?_
    split
    · exact h
    · rename_i ha
      rw [List.nodup_append]
      exact ⟨h, by simp, fun x hx y hy e => ha (by rw [← List.mem_singleton.1 hy, ← e]; exact hx)⟩
theorem nodup_le : ∀ {k cols : List α}, k.Nodup → (∀ c ∈ k, c ∈ cols) → k.length ≤ cols.length
  | [], _, _, _ => Nat.zero_le _
  | a :: k, cols, h, hs => by
    have ha := hs a (List.mem_cons_self ..)
    rw [List.nodup_cons] at h
    have := nodup_le (k := k) (cols := cols.erase a) h.2 fun c hc => by
      have hne : c ≠ a := fun e => h.1 (by rw [← e]; exact hc)
      exact (List.mem_erase_of_ne hne).2 (hs c (List.mem_cons_of_mem _ hc))
    rw [List.length_erase_of_mem ha] at this
    have h0 := List.length_pos_of_mem ha
    simp only [List.length_cons]
    omega
theorem addK_len : ∀ {added k : List α}, k.length ≤ (addK k added).length
  | [], _ => Nat.le_refl _
  | a :: r, k => by
    show k.length ≤ (addK (if a ∈ k then k else k ++ [a]) r).length
    refine Nat.le_trans ?_ addK_len
    split <;> simp
theorem addK_len_lt : ∀ {added k : List α}, (∃ c ∈ added, c ∉ k) → k.length < (addK k added).length
  | [], _, h => by obtain ⟨_, h, _⟩ := h; cases h
  | a :: r, k, h => by
    show k.length < (addK (if a ∈ k then k else k ++ [a]) r).length
    by_cases ha : a ∈ k
    · rw [if_pos ha]
      obtain ⟨c, h1, h2⟩ := h
      rcases List.mem_cons.1 h1 with rfl | h1
      · exact absurd ha h2
      · exact addK_len_lt ⟨c, h1, h2⟩
    · rw [if_neg ha]
      refine Nat.lt_of_lt_of_le ?_ addK_len
      simp
/-- sizes -/
structure Sz (s : List α) (u : List Nat) : Prop where
  nd : s.Nodup
  le : u.length ≤ s.length
theorem sz0 (left : List α) : Sz (addK [] left) [] := ⟨addK_nodup List.nodup_nil, Nat.zero_le _⟩
theorem not_sub {s k : List α} (h : sub s k = false) : ∃ c ∈ s, c ∉ k := by
  unfold sub at h
  rw [List.all_eq_false] at h
  obtain ⟨c, h1, h2⟩ := h
  exact ⟨c, h1, by simpa using h2⟩
theorem sz_step {s : RS α} {p : Rule α × Nat} (h : Sz s.1 s.2.1) : Sz (stepR s p).1 (stepR s p).2.1 := by
  unfold stepR
  split
  next hc =>
    refine ⟨addK_nodup h.nd, ?_⟩
    have := addK_len_lt (not_sub hc.2)
    have h2 := h.le
    simp only [List.length_append, List.length_singleton]
    omega
  next => exact h
theorem sz_fold : ∀ (ps : List (Rule α × Nat)) (s : RS α), Sz s.1 s.2.1 → Sz (ps.foldl stepR s).1 (ps.foldl stepR s).2.1
  | [], _, h => h
  | p :: ps, s, h => sz_fold ps (stepR s p) (sz_step h)
/-! tables -/
def Kept {ρ κ τ : Type} (f : ρ → κ) (g : ρ → τ) (rows : List ρ) : Prop := ∀ r ∈ rows, ∀ s ∈ rows, f r = f s → g r = g s
theorem idx_inj {cols : List α} {c d : α} (hc : c ∈ cols) (h : cols.idxOf c = cols.idxOf d) : c = d := by
  have h1 : cols[cols.idxOf c]? = some c := by
    rw [List.getElem?_eq_getElem (List.idxOf_lt_length_of_mem hc)]
    simp
  by_cases hd : d ∈ cols
  · have h2 : cols[cols.idxOf d]? = some d := by
      rw [List.getElem?_eq_getElem (List.idxOf_lt_length_of_mem hd)]
      simp
    rw [h, h2] at h1
    exact (Option.some.inj h1).symm
  · have := List.idxOf_lt_length_of_mem hc
    rw [h, List.idxOf_eq_length hd] at this
    omega
end Pm
end
section
set_option linter.all false
namespace Pm
variable {α : Type} [DecidableEq α]
theorem walkK_append (rules : List (Rule α)) : ∀ (p q : List Int) (k : List α), walkK rules k (p ++ q) = (walkK rules k p).bind fun k => walkK rules k q
  | [], q, k => rfl
  | i :: p, q, k => by
    simp only [List.cons_append, walkK]
    split
    · split
      · split
        · exact walkK_append rules p q _
        · rfl
      · rfl
    · rfl
/-- what is known on the way is within the columns, and no name twice -/
theorem walkK_in {cols : List α} {rules : List (Rule α)} (hw : Within cols rules) : ∀ (p : List Int) (k k' : List α), k.Nodup → (∀ c ∈ k, c ∈ cols) → walkK rules k p = some k' → k'.Nodup ∧ ∀ c ∈ k', c ∈ cols
  | [], k, k', h1, h2, h => by cases h; exact ⟨h1, h2⟩
  | i :: p, k, k', h1, h2, h => by
    simp only [walkK] at h
    split at h
    · split at h
      · rename_i r hr
        split at h
        · exact walkK_in hw p _ k' (addK_nodup h1) (fun c hc => by
            rcases mem_addK.1 hc with hc | hc
            · exact h2 c hc
            · exact (hw r (List.mem_of_getElem? hr)).2 c hc) h
        · cases h
      · cases h
    · cases h
/-- one more step -/
theorem walkK_snoc {rules : List (Rule α)} {k k' : List α} {p : List Int} {i : Int} (h : walkK rules k p = some k') : walkK rules k (p ++ [i]) = walkK rules k' [i] := by rw [walkK_append, h]; rfl
theorem isDer_none {rules : List (Rule α)} {rule : Rule α} {p q : List Int} {i : Int} {k' : List α} (h : walkK rules (addK [] rule.1) p = some k') (h' : walkK rules k' [i] = none) : isDer rules rule (p ++ i :: q) = false := by
  unfold isDer
  have : walkK rules (addK [] rule.1) (p ++ i :: q) = none := by
    rw [show p ++ i :: q = (p ++ [i]) ++ q by simp, walkK_append, walkK_snoc h, h']; rfl
  rw [this]
/-! a table walked with what was found -/
def lk {κ τ : Type} [DecidableEq κ] (k : κ) : List (κ × τ) → Option τ
  | [] => none
  | (a, b) :: r => if a = k then some b else lk k r
def fstep {ρ κ τ : Type} [DecidableEq κ] (f : ρ → κ) (g : ρ → τ) (F : List (κ × τ)) (r : ρ) : List (κ × τ) := match lk (f r) F with
  | some _ => F
  | none => F ++ [(f r, g r)]
structure Fnd {ρ κ τ : Type} [DecidableEq κ] (f : ρ → κ) (g : ρ → τ) (pre : List ρ) (F : List (κ × τ)) : Prop where
  has : ∀ r ∈ pre, lk (f r) F = some (g r)
  len : F.length ≤ pre.length
  of : ∀ k t, lk k F = some t → ∃ r ∈ pre, f r = k ∧ g r = t
theorem lookup_snoc {κ τ : Type} [DecidableEq κ] {k : κ} {t : τ} {j : κ} : ∀ {F : List (κ × τ)}, lk k F = none → lk j (F ++ [(k, t)]) = if j = k then some t else lk j F
  | [], _ => by
    simp only [List.nil_append, lk]
    by_cases h : k = j
    · subst h; simp
    · rw [if_neg h, if_neg fun e => h e.symm]
  | (a, b) :: F, h => by
    simp only [lk] at h
    simp only [List.cons_append, lk]
    by_cases ha : a = k
    · rw [if_pos ha] at h; cases h
    · rw [if_neg ha] at h
      rw [lookup_snoc h]
      by_cases hj : a = j
      · subst hj; simp [ha]
      · simp [hj]
theorem fnd_nil {ρ κ τ : Type} [DecidableEq κ] (f : ρ → κ) (g : ρ → τ) : Fnd f g [] [] := ⟨fun _ h => by (cases h), Nat.le_refl _, fun _ _ h => by (cases h)⟩
theorem fnd_step {ρ κ τ : Type} [DecidableEq κ] {f : ρ → κ} {g : ρ → τ} {pre : List ρ} {F : List (κ × τ)} {r : ρ} (h : Fnd f g pre F) (ok : ∀ t, lk (f r) F = some t → t = g r) : Fnd f g (pre ++ [r]) (fstep f g F r) := by
  unfold fstep
  cases hl : lk (f r) F with
  | some t =>
    have ht := ok t hl
    refine ⟨fun s hs => ?_, by have := h.len; simp; omega, fun k t' hk => ?_⟩
    · rcases List.mem_append.1 hs with hs | hs
      · exact h.has s hs
      · rw [List.mem_singleton.1 hs, hl, ht]
    · obtain ⟨s, h1, h2⟩ := h.of k t' hk
      exact ⟨s, by simp [h1], h2⟩
  | none =>
    refine ⟨fun s hs => ?_, by have := h.len; simp; omega, fun k t' hk => ?_⟩
    · rw [lookup_snoc hl]
      rcases List.mem_append.1 hs with hs | hs
      · have := h.has s hs
        split
        next e => rw [e, hl] at this; cases this
        next => exact this
      · rw [List.mem_singleton.1 hs, if_pos rfl]
    · rw [lookup_snoc hl] at hk
      split at hk
      next e => cases hk; exact ⟨r, by simp, e.symm, rfl⟩
      next =>
        obtain ⟨s, h1, h2⟩ := h.of k t' hk
        exact ⟨s, by simp [h1], h2⟩
theorem kept_of {ρ κ τ : Type} [DecidableEq κ] {f : ρ → κ} {g : ρ → τ} {rows : List ρ} {F : List (κ × τ)} (h : Fnd f g rows F) : Kept f g rows := fun r hr s hs e => by
  have h1 := h.has r hr
  have h2 := h.has s hs
  rw [e, h2] at h1
  exact (Option.some.inj h1).symm
theorem not_kept {ρ κ τ : Type} [DecidableEq κ] {f : ρ → κ} {g : ρ → τ} {pre rest : List ρ} {r : ρ} {F : List (κ × τ)} {t : τ} (h : Fnd f g pre F) (hl : lk (f r) F = some t) (hn : t ≠ g r) : ¬ Kept f g (pre ++ r :: rest) := fun hk => by
  obtain ⟨s, h1, h2, h3⟩ := h.of _ t hl
  exact hn (by rw [← h3]; exact hk s (by simp [h1]) r (by simp) h2)
end Pm
end
section
set_option Elab.async false
set_option linter.all false
set_option maxRecDepth 100000
namespace K81
open PySem L2 Mi Mi.Px Pm
/-- the levels of calls; held shut, so that nobody runs them by chance -/
noncomputable def R : Nat → Calls := Classical.choose (p := fun f : Nat → Calls => f = runs 100000 ds) ⟨_, rfl⟩
theorem R_eq : R = runs 100000 ds := Classical.choose_spec (p := fun f : Nat → Calls => f = runs 100000 ds) ⟨_, rfl⟩
theorem gives_def {n f : Nat} {ss : List SV} {d : Fd} {Q : RV → List SV → Prop} (hd : ds[f]? = some (.ir d)) (hl : ss.length = d.np)
    (h : wp (exc (R n) 100000 d.body (d.start ss)) (fun fl env => match fl with
      | .nx => ∃ ts, argOuts env 0 ss = some ts ∧ Q (.fz .non) ts
      | .ret r => ∃ ts, argOuts env 0 ss = some ts ∧ Q r ts
      | _ => False) (fun _ => False)) : ∃ r ts, R (n + 1) f ss = .ok r ts ∧ Q r ts := by
  rw [R_eq] at h ⊢
  exact Mi.Px.gives_def hd hl h
theorem eq_def {n f : Nat} {ss : List SV} {d : Fd} {r : RV} {ts : List SV} (hd : ds[f]? = some (.ir d)) (hl : ss.length = d.np)
    (h : wp (exc (R n) 100000 d.body (d.start ss)) (fun fl env => match fl with
      | .nx => argOuts env 0 ss = some ts ∧ r = .fz .non
      | .ret r' => argOuts env 0 ss = some ts ∧ r' = r
      | _ => False) (fun _ => False)) : R (n + 1) f ss = .ok r ts := by
  rw [R_eq] at h ⊢
  exact Mi.Px.eq_def hd hl h
theorem ex_def {n f : Nat} {ss : List SV} {d : Fd} {x : Exn} (hd : ds[f]? = some (.ir d)) (hl : ss.length = d.np)
    (h : wp (exc (R n) 100000 d.body (d.start ss)) (fun _ _ => False) (fun y => y = x)) : R (n + 1) f ss = .ex x := by
  rw [R_eq] at h ⊢
  exact Mi.Px.ex_def hd hl h
theorem look_names_ok {n : Nat} {sc sn : SV} {cols names : List Str} (hc : Sq sc (sts cols)) (hn : Sq sn (sts names)) (h : ∀ x ∈ names, x ∈ cols) : R (n + 1) 0 [sc, sn] = .ok (.fz .non) [sc, sn] := by
  refine eq_def rfl rfl ?_
  show wp (exc _ _ flook_names.body [sc, sn, .un]) _ _
  unfold flook_names
  rw [wp_seq]
  refine wp_for (xs := names) (g := D.str) (evi_sq hn rfl) (fun p e => ∃ u, fr u = true ∧ e = [sc, sn, u]) ?_ ?_ ?_
  · rw [lock_sq hn rfl]; exact ⟨_, rfl, rfl⟩
  · rintro p x q e hx ⟨u, hu, rfl⟩
    have hx' : x ∈ cols := h x (by rw [hx]; simp)
    refine ⟨held_sq hn rfl, [sc, sn, .fz (.str x)], by simp [hu], ?_⟩
    cases hc <;> simp [hx']
  · rintro e ⟨u, hu, rfl⟩
    refine ⟨held_sq hn rfl, ?_⟩
    rw [unlock_sq hn rfl]
    simp [argOut_sq hc, argOut_sq hn]
/-- the first name that is no column -/
def firstNo (cols names : List Str) : Option Str := names.find? fun x => decide (x ∉ cols)
theorem look_names_ex {n : Nat} {sc sn : SV} {cols names : List Str} {y : Str} (hc : Sq sc (sts cols)) (hn : Sq sn (sts names)) (h : firstNo cols names = some y) (hy : exArg (.str y) = true) : R (n + 1) 0 [sc, sn] = .ex ⟨0, .str y⟩ := by
  refine ex_def rfl rfl ?_
  show wp (exc _ _ flook_names.body [sc, sn, .un]) _ _
  unfold flook_names
  rw [wp_seq]
  refine wp_for (xs := names) (g := D.str) (evi_sq hn rfl) (fun p e => (∀ x ∈ p, x ∈ cols) ∧ ∃ u, fr u = true ∧ e = [sc, sn, u]) ?_ ?_ ?_
  · rw [lock_sq hn rfl]; exact ⟨by simp, _, rfl, rfl⟩
  · rintro p x q e hx ⟨hp, u, hu, rfl⟩
    refine ⟨held_sq hn rfl, [sc, sn, .fz (.str x)], by simp [hu], ?_⟩
    by_cases hx' : x ∈ cols
    · have hpx : ∀ z ∈ p ++ [x], z ∈ cols := by
        intro z hz
        rcases List.mem_append.1 hz with hz | hz
        · exact hp z hz
        · rw [List.mem_singleton.1 hz]; exact hx'
      cases hc <;> simp [hx'] <;> exact fun z hz => hpx z (by simpa using hz)
    · have hxy : x = y := by
        unfold firstNo at h
        rw [hx, List.find?_append, List.find?_eq_none.2 (by simpa using hp)] at h
        simpa [hx'] using h
      subst hxy
      cases hc <;> simp [hx', hy]
  · rintro e ⟨hp, u, hu, rfl⟩
    unfold firstNo at h
    have := List.find?_some h
    have h2 := List.mem_of_find?_eq_some h
    simp only [decide_eq_true_eq] at this
    exact absurd (hp y h2) this
theorem Sq_s1 {r : List Str} : Sq (.fz (.tup (r.map D.str))) (sts r) := .t
/-- all of the rules' names are columns -/
abbrev RIn (cols : List Str) (rules : List (List Str × List Str)) : Prop := Within cols rules
theorem look_rules_ok {n : Nat} {sc sr : SV} {cols : List Str} {rules : List (List Str × List Str)} (hc : Sq sc (sts cols)) (hr : Sq sr (rules.map rl)) (h : RIn cols rules) : R (n + 2) 1 [sc, sr] = .ok (.fz .non) [sc, sr] := by
  refine eq_def rfl rfl ?_
  show wp (exc _ _ flook_rules.body [sc, sr, .un, .un]) _ _
  unfold flook_rules
  rw [wp_seq]
  refine wp_for (xs := rules) (g := rl) (evi_sq hr rfl) (fun p e => ∃ u v, fr u = true ∧ fr v = true ∧ e = [sc, sr, u, v]) ?_ ?_ ?_
  · rw [lock_sq hr rfl]; exact ⟨_, _, rfl, rfl, rfl⟩
  · rintro p x q e hx ⟨u, v, hu, hv, rfl⟩
    have hx' := h x (by rw [hx]; simp)
    have h1 := look_names_ok (n := n) hc (Sq_s1 (r := x.1)) hx'.1
    have h2 := look_names_ok (n := n) hc (Sq_s1 (r := x.2)) hx'.2
    refine ⟨held_sq hr rfl, [sc, sr, .fz (.tup (x.1.map D.str)), .fz (.tup (x.2.map D.str))], by simp [rl, hu, hv], ?_⟩
    cases hc <;> simp [h1, h2]
  · rintro e ⟨u, v, hu, hv, rfl⟩
    refine ⟨held_sq hr rfl, ?_⟩
    rw [unlock_sq hr rfl]
    simp [argOut_sq hc, argOut_sq hr]
def flat (rules : List (List Str × List Str)) : List Str := rules.flatMap fun r => r.1 ++ r.2
theorem firstNo_none {cols names : List Str} : firstNo cols names = none ↔ ∀ x ∈ names, x ∈ cols := by
  unfold firstNo; rw [List.find?_eq_none]; simp
theorem look_rules_ex {n : Nat} {sc sr : SV} {cols : List Str} {rules : List (List Str × List Str)} {y : Str} (hc : Sq sc (sts cols)) (hr : Sq sr (rules.map rl)) (h : firstNo cols (flat rules) = some y) (hy : exArg (.str y) = true) : R (n + 2) 1 [sc, sr] = .ex ⟨0, .str y⟩ := by
  refine ex_def rfl rfl ?_
  show wp (exc _ _ flook_rules.body [sc, sr, .un, .un]) _ _
  unfold flook_rules
  rw [wp_seq]
  refine wp_for (xs := rules) (g := rl) (evi_sq hr rfl) (fun p e => (∀ x ∈ flat p, x ∈ cols) ∧ ∃ u v, fr u = true ∧ fr v = true ∧ e = [sc, sr, u, v]) ?_ ?_ ?_
  · rw [lock_sq hr rfl]; exact ⟨by simp [flat], _, _, rfl, rfl, rfl⟩
  · rintro p x q e hx ⟨hp, u, v, hu, hv, rfl⟩
    refine ⟨held_sq hr rfl, [sc, sr, .fz (.tup (x.1.map D.str)), .fz (.tup (x.2.map D.str))], by simp [rl, hu, hv], ?_⟩
    have hf : firstNo cols (x.1 ++ x.2 ++ flat q) = some y := by
      have e : flat rules = flat p ++ (x.1 ++ x.2 ++ flat q) := by rw [hx]; simp [flat]
      unfold firstNo at h ⊢
      rw [e, List.find?_append, List.find?_eq_none.2 (by simpa using hp)] at h
      simpa using h
    cases h1 : firstNo cols x.1 with
    | some z =>
      have : z = y := by
        unfold firstNo at hf h1
        rw [List.append_assoc, List.find?_append, h1] at hf
        simpa using hf
      subst this
      have h1 := look_names_ex (n := n) hc (Sq_s1 (r := x.1)) h1 hy
      cases hc <;> simp [h1]
    | none =>
      have g1 := look_names_ok (n := n) hc (Sq_s1 (r := x.1)) (firstNo_none.1 h1)
      cases h2 : firstNo cols x.2 with
      | some z =>
        have : z = y := by
          unfold firstNo at hf h1 h2
          rw [List.append_assoc, List.find?_append, h1, List.find?_append, h2] at hf
          simpa using hf
        subst this
        have h2 := look_names_ex (n := n) hc (Sq_s1 (r := x.2)) h2 hy
        cases hc <;> simp [g1, h2]
      | none =>
        have g2 := look_names_ok (n := n) hc (Sq_s1 (r := x.2)) (firstNo_none.1 h2)
        have hpx : ∀ z ∈ flat (p ++ [x]), z ∈ cols := by
          intro z hz
          simp only [flat, List.flatMap_append, List.flatMap_cons, List.flatMap_nil, List.append_nil, List.mem_append] at hz
          rcases hz with hz | hz | hz
          · exact hp z hz
          · exact firstNo_none.1 h1 z hz
          · exact firstNo_none.1 h2 z hz
        cases hc <;> simp [g1, g2] <;> exact hpx
  · rintro e ⟨hp, u, v, hu, hv, rfl⟩
    rw [firstNo_none.2 hp] at h; cases h
end K81
end
section
set_option Elab.async false
set_option linter.all false
set_option maxRecDepth 100000
namespace K81
open PySem L2 Mi Mi.Px Pm
@[simp] theorem lim_eq : lim = 16777216 := by decide
/-- a slot that holds known names -/
inductive Kn : SV → List Str → Prop
  | f {ks} : Kn (.fz (setD ks)) ks
  | p {ks} : Kn (.pn 1 (setD ks)) ks
@[simp] theorem bls_map {β : Type} (f : β → Bool) : ∀ xs : List β, D.bls (xs.map fun x => D.bl (f x)) = some (xs.map f)
  | [] => rfl
  | x :: xs => by
    have := bls_map f xs
    simp [D.bls, this]
@[simp] theorem turn1_eq {Φ c e en2} : turn1 Φ c e en2 = (evc Φ c en2).bind fun b en3 => if b then (ev Φ e en3).bind fun r en4 => (match keep en4 r with
            | some (x, en5) => .ok (some x) en5
            | none => .no) else .ok none en3 := rfl
@[simp] theorem turn2_eq {Φ c k e en2} : turn2 Φ c k e en2 = (evc Φ c en2).bind fun b en3 => if b then (ev Φ k en3).bind fun rk en4 => (match rk with
            | .fz kd => (match kd.key with
              | some k => (ev Φ e en4).bind fun r en5 => (match keep en5 r with
                | some (x, en6) => .ok (some (k, x)) en6
                | none => .no)
              | none => .no)
            | _ => .no) else .ok none en3 := rfl
theorem all_in_eq {n : Nat} {names ks : List Str} {sk : SV} (hk : Kn sk ks) (hl : names.length ≤ lim) : R (n + 1) 2 [.fz (.tup (names.map D.str)), sk] = .ok (.fz (.bl (sub names ks))) [.fz (.tup (names.map D.str)), sk] := by
  refine eq_def rfl rfl ?_
  show wp (exc _ _ fall_in.body [.fz (.tup (names.map D.str)), sk, .un]) _ _
  unfold fall_in
  have h : ev (R n) (.lcp [("name", 2)] (.nm 2) (.seq (.var 0)) none (.cmp .isin (.var 2) (.var 1))) [.fz (.tup (names.map D.str)), sk, .un] = .ok (.ow 1 (.lst (names.filterMap fun x => some (D.bl (decide (x ∈ ks)))))) [.fz (.tup (names.map D.str)), sk, .un] := by
    refine ev_lcp0 (xs := names) (g := D.str) _ (e1 := [.fz (.tup (names.map D.str)), sk, .un]) rfl rfl hl (fun _ _ h => by cases h) (fun x hx => ?_)
    cases hk <;> simp
  cases hk <;> simp [h, sub]
theorem foldl_put {xs ks : List Str} : xs.foldl (fun a x => put (Sum.inr x : Key) (D.bl true) a.1 a.2) (ks.map Sum.inr, ks.map fun _ => D.bl true) = ((addK ks xs).map Sum.inr, (addK ks xs).map fun _ => D.bl true) := by
  induction xs generalizing ks with
  | nil => rfl
  | cons x xs ih =>
    simp only [List.foldl_cons, put_set]
    exact ih
theorem ev_known {Φ : Calls} {nm : Str} {i j : Nat} {s : SV} {left : List Str} {env : List SV} (hs : Sq s (sts left)) (hi : env[i]? = some s) (hj : env[j]? = some .un) (hl : left.length ≤ lim) :
    ev Φ (.dcp [(nm, j)] (.nm j) (.seq (.var i)) none (.var j) (.cst (.bl true))) env = .ok (.ow 1 (setD (addK [] left))) env := by
  have hij : i ≠ j := by rintro rfl; rw [hi] at hj; cases hj; cases hs
  have hjl : j < env.length := by
    rcases Nat.lt_or_ge j env.length with h | h
    · exact h
    · rw [List.getElem?_eq_none h] at hj; cases hj
  have := ev_dcp (Φ := Φ) (own := [(nm, j)]) (tg := .nm j) (src := .seq (.var i)) (c := none) (k := .var j) (e := .cst (.bl true)) (xs := left) (g := D.str) (env := env) (e1 := env) (lk := lkOf i s) (fun x => (Sum.inr x, .bl true)) (fun en => ∃ u, en = env.set j u) (evi_sq hs hi) (by simp [hj]) hl ⟨.un, by rw [lock_sq hs hi, set_same hj]⟩ ?_ ?_
  · rw [this]
    have e := foldl_put (xs := left) (ks := [])
    simp only [List.map_nil] at e
    rw [e]; rfl
  · rintro x hx en ⟨u, rfl⟩
    refine ⟨env.set j (.fz (.str x)), by simp [hjl], env.set j (.fz (.str x)), ?_, _, rfl⟩
    simp [hjl, D.key]
  · rintro en ⟨u, rfl⟩
    have hi' : (env.set j u)[i]? = some s := by rw [List.getElem?_set, if_neg (fun h => hij h.symm)]; exact hi
    refine ⟨held_sq hs hi', ?_⟩
    have : undo env (env.set j u) [j] = env := by simp [undo, List.getD, hj, set_same hj]
    show unlockE _ (undo env (env.set j u) [j]) = env
    rw [this, unlock_sq hs hi]
def usD (u : List Nat) : D := .lst (u.map fun (n : Nat) => D.int (n : Int))
abbrev pairD (p : (List Str × List Str) × Nat) : D := .tup [.int (p.2 : Int), rl p.1]
theorem step_pos {s : RS Str} {p : Rule Str × Nat} (h : sub p.1.1 s.1 = true ∧ sub p.1.2 s.1 = false) : stepR s p = (addK s.1 p.1.2, s.2.1 ++ [p.2], true) := by unfold stepR; rw [if_pos h]
theorem step_neg {s : RS Str} {p : Rule Str × Nat} (h : ¬ (sub p.1.1 s.1 = true ∧ sub p.1.2 s.1 = false)) : stepR s p = s := by unfold stepR; rw [if_neg h]
theorem addK_snoc {k p : List Str} {x : Str} : addK k (p ++ [x]) = (if x ∈ addK k p then addK k p else addK k p ++ [x]) := by
  unfold addK; rw [List.foldl_append]; rfl
theorem addK_pre_len {k p q : List Str} : (addK k p).length ≤ (addK k (p ++ q)).length := by
  have : addK k (p ++ q) = addK (addK k p) q := by unfold addK; rw [List.foldl_append]
  rw [this]; exact addK_len
def RI (cols : List Str) (sr sl : SV) (rules : List (List Str × List Str)) (left : List Str) (m : Nat) (e : List SV) : Prop := ∃ k u g v5 v6 v7 v8, fr v5 = true ∧ fr v6 = true ∧ fr v7 = true ∧ fr v8 = true ∧ e = [sr, sl, .ow 1 (setD k), .ow 1 (usD u), .fz (.bl g), v5, v6, v7, v8] ∧ Pm.Inv rules left k u ∧ Sz k u ∧ (g = true → m = msr cols k + 1) ∧ (g = false → ∀ c, c ∈ k ↔ Cl rules left c)
theorem reached_eq {n : Nat} {cols : List Str} {sr sl : SV} {rules : List (List Str × List Str)} {left : List Str} (hr : Sq sr (rules.map rl)) (hl : Sq sl (sts left)) (hw : Within cols rules) (hlc : ∀ c ∈ left, c ∈ cols) (hll : left.length ≤ lim) (hcl : cols.length < 1000) (hrs : ∀ r ∈ rules, r.1.length ≤ lim ∧ r.2.length ≤ lim) :
    ∃ k u, R (n + 2) 3 [sr, sl] = .ok (.ow 2 (.tup [setD k, usD u])) [sr, sl] ∧ Pm.Inv rules left k u ∧ (∀ c, c ∈ k ↔ Cl rules left c) ∧ Sz k u := by
  suffices key : ∀ Q : RV → List SV → Prop, (∀ k u, Pm.Inv rules left k u → (∀ c, c ∈ k ↔ Cl rules left c) → Sz k u → Q (.ow 2 (.tup [setD k, usD u])) [sr, sl]) → ∃ r ts, R (n + 2) 3 [sr, sl] = .ok r ts ∧ Q r ts by
    obtain ⟨r, ts, h, k, u, rfl, rfl, h1, h2⟩ := key (fun r ts => ∃ k u, r = .ow 2 (.tup [setD k, usD u]) ∧ ts = [sr, sl] ∧ Pm.Inv rules left k u ∧ (∀ c, c ∈ k ↔ Cl rules left c) ∧ Sz k u) (fun k u h1 h2 h3 => ⟨k, u, rfl, rfl, h1, h2, h3⟩)
    exact ⟨k, u, h, h1, h2⟩
  intro Q hQ
  refine gives_def (n := n + 1) (f := 3) (ss := [sr, sl]) (d := freached) rfl rfl ?_
  show wp (exc _ _ freached.body [sr, sl, .un, .un, .un, .un, .un, .un, .un]) _ _
  unfold freached
  have h1 := ev_known (Φ := R (n + 1)) (nm := "name") (i := 1) (j := 5) (env := [sr, sl, .un, .un, .un, .un, .un, .un, .un]) hl rfl rfl hll
  simp [h1]
  refine wp_whl (RI cols sr sl rules left) (msr cols (addK [] left) + 1) ?_ ?_ ?_
  · have := msr_le cols (addK [] left); omega
  · exact ⟨_, [], true, _, _, _, _, rfl, rfl, rfl, rfl, rfl, inv0 rules left, sz0 left, fun _ => rfl, fun h => by cases h⟩
  rintro m e ⟨k, u, g, v5, v6, v7, v8, f5, f6, f7, f8, rfl, hi, hz, hg1, hg2⟩
  cases g with
  | false =>
    have hfin := hg2 rfl
    have ho : argOut [sr, sl, .un, .un, .fz (.bl false), v5, v6, v7, v8] 0 sr = some sr := argOut_sq hr rfl
    have ho2 : argOut [sr, sl, .un, .un, .fz (.bl false), v5, v6, v7, v8] 1 sl = some sl := argOut_sq hl rfl
    simp [owOf, ho, ho2]
    exact hQ k u hi hfin hz
  | true =>
    have hm := hg1 rfl
    simp
    refine wp_for (xs := rules.zipIdx 0) (g := pairD) (by rw [evi_sq_enm hr rfl, enumD_map]) (fun p e => ∃ v5 v6 v7 v8, fr v5 = true ∧ fr v6 = true ∧ fr v7 = true ∧ fr v8 = true ∧ e = [sr, sl, .ow 1 (setD (p.foldl stepR (k, u, false)).1), .ow 1 (usD (p.foldl stepR (k, u, false)).2.1), .fz (.bl (p.foldl stepR (k, u, false)).2.2), v5, v6, v7, v8]) ?_ ?_ ?_
    · rw [lock_sq hr rfl]; exact ⟨_, _, _, _, f5, f6, f7, f8, rfl⟩
    · rintro p x q e hx ⟨v5, v6, v7, v8, f5, f6, f7, f8, rfl⟩
      have hxm : x ∈ rules.zipIdx 0 := by rw [hx]; simp
      have hxr : x.1 ∈ rules := List.mem_of_getElem? (zip_get rules x hxm)
      have hxl := hrs x.1 hxr
      have hz' := sz_fold p (k, u, false) hz
      have hi' := fold_inv (rules := rules) (left := left) p (k, u, false) (fun y hy => zip_get rules y (by rw [hx]; simp [hy])) hi
      generalize hs : p.foldl stepR (k, u, false) = s at hz' hi'
      have hsn : (p ++ [x]).foldl stepR (k, u, false) = stepR s x := by rw [List.foldl_append, hs]; rfl
      have hsc : ∀ c ∈ s.1, c ∈ cols := fun c hc => cl_within hw hlc (hi'.cl c hc)
      have hslen := nodup_le hz'.nd hsc
      have a1 := all_in_eq (n := n) (names := x.1.1) (Kn.p (ks := s.1)) hxl.1
      have a2 := all_in_eq (n := n) (names := x.1.2) (Kn.p (ks := s.1)) hxl.2
      refine ⟨held_sq hr rfl, [sr, sl, .ow 1 (setD s.1), .ow 1 (usD s.2.1), .fz (.bl s.2.2), v5, .fz (.int x.2), .fz (.tup (x.1.1.map D.str)), .fz (.tup (x.1.2.map D.str))], by simp [rl, f6, f7, f8], ?_⟩
      have hst := lim_eq
      by_cases hc : sub x.1.1 s.1 = true ∧ sub x.1.2 s.1 = false
      · have hul : s.2.1.length < 16777216 := by have := hz'.le; omega
        have hsu : ∀ a : Nat, usD (s.2.1 ++ [a]) = .lst (s.2.1.map (fun (n : Nat) => D.int (n : Int)) ++ [D.int (a : Int)]) := by intro a; simp [usD]
        simp [hsn, step_pos hc, a1, a2, hc.1, hc.2]
        simp [usD, hul]
        refine wp_for (xs := x.1.2) (g := D.str) (lk := none) (e1 := [sr, sl, .ow 1 (setD s.1), .ow 1 (usD (s.2.1 ++ [x.2])), .fz (.bl true), v5, .fz (.int x.2), .fz (.tup (x.1.1.map D.str)), .fz (.tup (x.1.2.map D.str))]) (by simp [usD]) (fun p e => ∃ v5, fr v5 = true ∧ e = [sr, sl, .ow 1 (setD (addK s.1 p)), .ow 1 (usD (s.2.1 ++ [x.2])), .fz (.bl true), v5, .fz (.int x.2), .fz (.tup (x.1.1.map D.str)), .fz (.tup (x.1.2.map D.str))]) ?_ ?_ ?_
        · exact ⟨_, f5, rfl⟩
        · rintro p' y q' e hy ⟨v5, f5, rfl⟩
          have hkl : (addK s.1 p').length < 16777216 := by
            have hnd : (addK s.1 p').Nodup := addK_nodup hz'.nd
            have : (addK s.1 p').length ≤ cols.length := nodup_le hnd fun c hc => by
              rcases mem_addK.1 hc with hc | hc
              · exact hsc c hc
              · exact (hw x.1 hxr).2 c (by rw [hy]; simp [hc])
            omega
          refine ⟨rfl, [sr, sl, .ow 1 (setD (addK s.1 p')), .ow 1 (usD (s.2.1 ++ [x.2])), .fz (.bl true), .fz (.str y), .fz (.int x.2), .fz (.tup (x.1.1.map D.str)), .fz (.tup (x.1.2.map D.str))], by simp [f5], ?_⟩
          simp [hkl, addK_snoc]
        · rintro e ⟨v5, f5, rfl⟩
          simp [usD]
          exact ⟨_, f5, _, rfl, _, rfl, _, rfl, rfl, rfl, rfl, rfl⟩
      · by_cases hc1 : sub x.1.1 s.1 = true
        · have hc2 : sub x.1.2 s.1 = true := by
            cases h : sub x.1.2 s.1
            · exact absurd ⟨hc1, h⟩ hc
            · rfl
          simp [hsn, step_neg hc, a1, a2, hc1, hc2]
          exact ⟨_, f5, _, rfl, _, rfl, _, rfl, rfl, rfl, rfl, rfl⟩
        · have hc1 : sub x.1.1 s.1 = false := by simpa using hc1
          simp [hsn, step_neg hc, a1, hc1]
          exact ⟨_, f5, _, rfl, _, rfl, _, rfl, rfl, rfl, rfl, rfl⟩
    · rintro e ⟨v5, v6, v7, v8, f5, f6, f7, f8, rfl⟩
      refine ⟨held_sq hr rfl, ?_⟩
      rw [unlock_sq hr rfl]
      have hz' := sz_fold (rules.zipIdx 0) (k, u, false) hz
      have hi' := fold_inv (rules := rules) (left := left) (rules.zipIdx 0) (k, u, false) (zip_get rules) hi
      have hp : ∀ p ∈ rules.zipIdx 0, ∀ c ∈ p.1.2, c ∈ cols := fun p hp => (hw p.1 (List.mem_of_getElem? (zip_get rules p hp))).2
      have g := foldR_grow (cols := cols) (rules.zipIdx 0) (k, u, false) rfl hp
      have gs := foldR_sup (rules.zipIdx 0) (k, u, false)
      generalize hs : (rules.zipIdx 0).foldl stepR (k, u, false) = s at *
      cases hb : s.2.2 with
      | true =>
        have hlt := msr_lt gs.1 (g.1 hb)
        have e2 : msr cols (k, u, false).1 = msr cols k := rfl
        simp only [exc_skip, wp_ok]
        exact ⟨msr cols s.1 + 1, by omega, s.1, s.2.1, true, v5, v6, v7, v8, f5, f6, f7, f8, rfl, hi', hz', fun _ => rfl, fun h => by cases h⟩
      | false =>
        have hfin : ∀ c, c ∈ s.1 ↔ Cl rules left c := by
          intro c
          rw [(g.2 hb).1]
          refine ⟨hi.cl c, fun hc => cl_sub hi.lf (fun r hr h1 d hd => ?_) hc⟩
          obtain ⟨i, hir⟩ := List.getElem?_of_mem hr
          exact (g.2 hb).2 (r, i) (List.mem_zipIdx_iff_getElem?.2 (by simpa using hir)) h1 d hd
        simp only [exc_skip, wp_ok]
        exact ⟨0, by omega, s.1, s.2.1, false, v5, v6, v7, v8, f5, f6, f7, f8, rfl, hi', hz', fun h => (by cases h), fun _ => hfin⟩
end K81
end
section
set_option Elab.async false
set_option linter.all false
set_option maxRecDepth 100000
namespace K81
open PySem L2 Mi Mi.Px Pm
structure Gd (cols : List Str) (rules : List (Rule Str)) : Prop where
  nd : cols.Nodup
  ok : ∀ c ∈ cols, okS c = true
  len : cols.length < 1000
  w : Within cols rules
  rl : ∀ r ∈ rules, r.1.length < 1000 ∧ r.2.length < 1000
  rn : rules.length < 1000
structure Lf (cols left : List Str) : Prop where
  sub : ∀ c ∈ left, c ∈ cols
  len : left.length < 1000
theorem reached_of {n : Nat} {cols : List Str} {sr sl : SV} {rules : List (Rule Str)} {left : List Str} (G : Gd cols rules) (hr : Sq sr (rules.map rl)) (hl : Sq sl (sts left)) (L : Lf cols left) :
    ∃ k u, R (n + 2) 3 [sr, sl] = .ok (.ow 2 (.tup [setD k, usD u])) [sr, sl] ∧ Pm.Inv rules left k u ∧ (∀ c, c ∈ k ↔ Cl rules left c) ∧ Sz k u :=
  reached_eq hr hl G.w L.sub (by have := L.len; simp; omega) G.len (fun r h => by have := G.rl r h; simp; omega)
theorem look1_ok {n : Nat} {sc : SV} {cols : List Str} {rule : Rule Str} (hc : Sq sc (sts cols)) (h1 : Lf cols rule.1) (h2 : Lf cols rule.2) : R (n + 2) 1 [sc, .pn 1 (.lst [rl rule])] = .ok (.fz .non) [sc, .pn 1 (.lst [rl rule])] :=
  look_rules_ok (rules := [rule]) hc (.p : Sq _ ([rule].map rl)) fun r hr => by rw [List.mem_singleton.1 hr]; exact ⟨h1.sub, h2.sub⟩
theorem filterMap_if {xs : List Str} {p : Str → Bool} : (xs.filterMap fun x => if p x = true then some (D.str x) else none) = (xs.filter p).map D.str := by
  induction xs with
  | nil => rfl
  | cons x xs ih => by_cases h : p x = true <;> simp [h, ih]
theorem closure_eq {n : Nat} {cols : List Str} {sc sr sl : SV} {rules : List (Rule Str)} {left : List Str} (G : Gd cols rules) (hc : Sq sc (sts cols)) (hr : Sq sr (rules.map rl)) (hl : Sq sl (sts left)) (L : Lf cols left) :
    R (n + 3) 5 [sc, sr, sl] = .ok (.ow 1 (.lst ((reach cols rules left).map D.str))) [sc, sr, sl] := by
  refine eq_def rfl rfl ?_
  show wp (exc _ _ fclosure.body [sc, sr, sl, .un, .un]) _ _
  unfold fclosure
  obtain ⟨k, u, h3, _, hk, _⟩ := reached_of (n := n) G hr hl L
  have h1 := look_rules_ok (n := n) hc hr G.w
  have h2 := look_names_ok (n := n + 1) hc hl L.sub
  have h4 : ev (R (n + 2)) (.lcp [("name", 4)] (.nm 4) (.seq (.var 0)) (some (.tst (.cmp .isin (.var 4) (.var 3)))) (.var 4)) [sc, sr, sl, .fz (setD k), .un] = .ok (.ow 1 (.lst (cols.filterMap fun x => if (decide (x ∈ k)) = true then some (D.str x) else none))) [sc, sr, sl, .fz (setD k), .un] := by
    refine ev_lcp0 (xs := cols) (g := D.str) _ (e1 := [sc, sr, sl, .fz (setD k), .un]) (evi_sq hc rfl) rfl (by have := G.len; simp; omega) (fun i s e => ?_) (fun x hx => ?_)
    · cases hc <;> simp [lkOf] at e
      obtain ⟨rfl, rfl⟩ := e
      exact ⟨by decide, rfl⟩
    · rw [lock_sq hc rfl]
      by_cases hx : x ∈ k <;> simp [hx]
  have e : (cols.filterMap fun x => if (decide (x ∈ k)) = true then some (D.str x) else none) = (reach cols rules left).map D.str := by
    rw [filterMap_if, reach_eq G.w L.sub k hk]
  rw [e] at h4
  cases hc <;> cases hr <;> cases hl <;> simp [h1, h2, h3, h4]
def due (cols : List Str) (rules : List (Rule Str)) (rule : Rule Str) : Bool := (lacks rule.2 (reach cols rules rule.1)).isEmpty
theorem due_iff {cols : List Str} {rules : List (Rule Str)} {rule : Rule Str} (G : Gd cols rules) (L : Lf cols rule.1) : due cols rules rule = true ↔ ∀ c ∈ rule.2, Cl rules rule.1 c := by
  unfold due
  rw [List.isEmpty_iff, lacks_nil]
  exact ⟨fun h c hc => (mem_reach G.w L.sub).1 (h c hc), fun h c hc => (mem_reach G.w L.sub).2 (h c hc)⟩
theorem sub_due {cols : List Str} {rules : List (Rule Str)} {rule : Rule Str} {k : List Str} (G : Gd cols rules) (L : Lf cols rule.1) (hk : ∀ c, c ∈ k ↔ Cl rules rule.1 c) : sub rule.2 k = due cols rules rule := by
  rw [Bool.eq_iff_iff, due_iff G L, sub_iff]
  exact ⟨fun h c hc => (hk c).1 (h c hc), fun h c hc => (hk c).2 (h c hc)⟩
section
variable {n : Nat} {cols : List Str} {sc sr : SV} {rules : List (Rule Str)} {rule : Rule Str} (G : Gd cols rules) (hc : Sq sc (sts cols)) (hr : Sq sr (rules.map rl)) (L1 : Lf cols rule.1) (L2' : Lf cols rule.2)
include G hc hr L1 L2'
theorem follows_eq : R (n + 3) 6 [sc, sr, .fz (rl rule)] = .ok (.fz (.bl (due cols rules rule))) [sc, sr, .fz (rl rule)] := by
  refine eq_def rfl rfl ?_
  show wp (exc _ _ ffollows.body [sc, sr, .fz (rl rule)]) _ _
  unfold ffollows
  obtain ⟨k, u, h3, _, hk, _⟩ := reached_of (n := n) G hr (Sq_s1 (r := rule.1)) L1
  have h1 := look_rules_ok (n := n) hc hr G.w
  have h2 := look1_ok (n := n) hc L1 L2'
  have h4 := all_in_eq (n := n + 1) (names := rule.2) (Kn.f (ks := k)) (by have := L2'.len; simp; omega)
  rw [sub_due G L1 hk] at h4
  cases hc <;> cases hr <;> simp [h1, h2, h3, h4]
theorem derivation_eq : (due cols rules rule = false ∧ R (n + 3) 7 [sc, sr, .fz (rl rule)] = .ok (.fz .non) [sc, sr, .fz (rl rule)]) ∨ (due cols rules rule = true ∧ ∃ u, R (n + 3) 7 [sc, sr, .fz (rl rule)] = .ok (.ow 1 (usD u)) [sc, sr, .fz (rl rule)] ∧ derives rules rule (nzs u) = true ∧ u.length < 1000) := by
  obtain ⟨k, u, h3, hi, hk, hz⟩ := reached_of (n := n) G hr (Sq_s1 (r := rule.1)) L1
  have h1 := look_rules_ok (n := n) hc hr G.w
  have h2 := look1_ok (n := n) hc L1 L2'
  have h4 := all_in_eq (n := n + 1) (names := rule.2) (Kn.p (ks := k)) (by have := L2'.len; simp; omega)
  rw [sub_due G L1 hk] at h4
  cases hd : due cols rules rule with
  | false =>
    rw [hd] at h4
    refine .inl ⟨rfl, ?_⟩
    refine eq_def rfl rfl ?_
    show wp (exc _ _ fderivation.body [sc, sr, .fz (rl rule), .un, .un]) _ _
    unfold fderivation
    cases hc <;> cases hr <;> simp [h1, h2, h3, h4]
  | true =>
    rw [hd] at h4
    refine .inr ⟨rfl, u, ?_, derives_inv hi fun c hc => (hk c).2 ((due_iff G L1).1 hd c hc), ?_⟩
    · refine eq_def rfl rfl ?_
      show wp (exc _ _ fderivation.body [sc, sr, .fz (rl rule), .un, .un]) _ _
      unfold fderivation
      cases hc <;> cases hr <;> simp [h1, h2, h3, h4]
    · have := nodup_le hz.nd fun c hc => cl_within G.w L1.sub (hi.cl c hc)
      have := hz.le
      have := G.len
      omega
theorem two_rows_eq : (due cols rules rule = true ∧ R (n + 3) 9 [sc, sr, .fz (rl rule)] = .ok (.fz .non) [sc, sr, .fz (rl rule)]) ∨ (due cols rules rule = false ∧ ∃ k : List Str, (∀ c, c ∈ k ↔ Cl rules rule.1 c) ∧ R (n + 3) 9 [sc, sr, .fz (rl rule)] = .ok (.ow 1 (.lst [.tup ((cols.map fun _ => ("a" : Str)).map D.str), .tup ((cols.map fun c => if c ∈ k then ("a" : Str) else ("b" : Str)).map D.str)])) [sc, sr, .fz (rl rule)]) := by
  obtain ⟨k, u, h3, hi, hk, hz⟩ := reached_of (n := n) G hr (Sq_s1 (r := rule.1)) L1
  have h1 := look_rules_ok (n := n) hc hr G.w
  have h2 := look1_ok (n := n) hc L1 L2'
  have h4 := all_in_eq (n := n + 1) (names := rule.2) (Kn.f (ks := k)) (by have := L2'.len; simp; omega)
  rw [sub_due G L1 hk] at h4
  have hlen := G.len
  have hlk : ∀ i s, lkOf 0 sc = some (i, s) → i ≠ 4 ∧ [sc, sr, .fz (rl rule), .fz (setD k), .un][i]? = some s := by
    intro i s e
    cases hc <;> simp [lkOf] at e
    obtain ⟨rfl, rfl⟩ := e
    exact ⟨by decide, rfl⟩
  have h5 : ev (R (n + 2)) (.lcp [("name", 4)] (.nm 4) (.seq (.var 0)) none (.cst (.str "a"))) [sc, sr, .fz (rl rule), .fz (setD k), .un] = .ok (.ow 1 (.lst (cols.filterMap fun x => some (D.str "a")))) [sc, sr, .fz (rl rule), .fz (setD k), .un] := by
    refine ev_lcp0 (xs := cols) (g := D.str) _ (e1 := [sc, sr, .fz (rl rule), .fz (setD k), .un]) (evi_sq hc rfl) rfl (by simp; omega) hlk (fun x hx => ?_)
    rw [lock_sq hc rfl]
    simp
  have h6 : ev (R (n + 2)) (.lcp [("name", 4)] (.nm 4) (.seq (.var 0)) none (.ifx (.tst (.cmp .isin (.var 4) (.var 3))) (.cst (.str "a")) (.cst (.str "b")))) [sc, sr, .fz (rl rule), .fz (setD k), .un] = .ok (.ow 1 (.lst (cols.filterMap fun x => some (D.str (if x ∈ k then "a" else "b"))))) [sc, sr, .fz (rl rule), .fz (setD k), .un] := by
    refine ev_lcp0 (xs := cols) (g := D.str) _ (e1 := [sc, sr, .fz (rl rule), .fz (setD k), .un]) (evi_sq hc rfl) rfl (by simp; omega) hlk (fun x hx => ?_)
    rw [lock_sq hc rfl]
    by_cases hx : x ∈ k <;> simp [hx]
  cases hd : due cols rules rule with
  | true =>
    rw [hd] at h4
    refine .inl ⟨rfl, ?_⟩
    refine eq_def rfl rfl ?_
    show wp (exc _ _ ftwo_rows.body [sc, sr, .fz (rl rule), .un, .un]) _ _
    unfold ftwo_rows
    cases hc <;> cases hr <;> simp [h1, h2, h3, h4]
  | false =>
    rw [hd] at h4
    refine .inr ⟨rfl, k, hk, ?_⟩
    refine eq_def rfl rfl ?_
    show wp (exc _ _ ftwo_rows.body [sc, sr, .fz (rl rule), .un, .un]) _ _
    unfold ftwo_rows
    cases hc <;> cases hr <;> simp [h1, h2, h3, h4, h5, h6]
end
end K81
end
section
set_option Elab.async false
set_option linter.all false
set_option maxRecDepth 100000
set_option maxHeartbeats 1000000
namespace K81
open PySem L2 Mi Mi.Px Pm
@[simp] theorem ty_int {i : Int} : D.ty (.int i) = "int" := rfl
@[simp] theorem ty_bl {i} : D.ty (.bl i) = "bool" := rfl
@[simp] theorem ty_str {i} : D.ty (.str i) = "str" := rfl
@[simp] theorem ty_lst {i} : D.ty (.lst i) = "list" := rfl
@[simp] theorem ty_tup {i} : D.ty (.tup i) = "tuple" := rfl
@[simp] theorem ty_non : D.ty .non = "NoneType" := rfl
section
variable {n : Nat} {cols : List Str} {sc sr : SV} {rules : List (Rule Str)} {rule : Rule Str} (G : Gd cols rules) (hc : Sq sc (sts cols)) (hr : Sq sr (rules.map rl)) (L1 : Lf cols rule.1) (L2' : Lf cols rule.2)
include G hc hr L1 L2'
theorem is_der_none : R (n + 3) 8 [sc, sr, .fz (rl rule), .fz .non] = .ok (.fz (.bl false)) [sc, sr, .fz (rl rule), .fz .non] := by
  have h1 := look_rules_ok (n := n) hc hr G.w
  have h2 := look1_ok (n := n) hc L1 L2'
  refine eq_def rfl rfl ?_
  show wp (exc _ _ fis_derivation.body [sc, sr, .fz (rl rule), .fz .non, .un, .un, .un, .un, .un]) _ _
  unfold fis_derivation
  cases hc <;> cases hr <;> simp [h1, h2]
theorem is_der_eq {ps : List Int} {sp : SV} (hp : Sq sp (ps.map D.int)) : R (n + 3) 8 [sc, sr, .fz (rl rule), sp] = .ok (.fz (.bl (isDer rules rule ps))) [sc, sr, .fz (rl rule), sp] := by
  have h1 := look_rules_ok (n := n) hc hr G.w
  have h2 := look1_ok (n := n) hc L1 L2'
  have hl1 := L1.len
  have hl2 := L2'.len
  refine eq_def rfl rfl ?_
  show wp (exc _ _ fis_derivation.body [sc, sr, .fz (rl rule), sp, .un, .un, .un, .un, .un]) _ _
  have h0 : ev (R (n + 2)) (.dcp [("name", 6)] (.nm 6) (.seq (.idx (.var 2) (.cst (.int 0)))) none (.var 6) (.cst (.bl true))) [sc, sr, .fz (rl rule), sp, .un, .un, .un, .un, .un] = .ok (.ow 1 (setD (addK [] rule.1))) [sc, sr, .fz (rl rule), sp, .un, .un, .un, .un, .un] := by
    have := ev_dcp (Φ := R (n + 2)) (own := [(("name" : Str), 6)]) (tg := .nm 6) (src := .seq (.idx (.var 2) (.cst (.int 0)))) (c := none) (k := .var 6) (e := .cst (.bl true)) (xs := rule.1) (g := D.str) (env := [sc, sr, .fz (rl rule), sp, .un, .un, .un, .un, .un]) (e1 := [sc, sr, .fz (rl rule), sp, .un, .un, .un, .un, .un]) (lk := none) (fun x => (Sum.inr x, .bl true)) (fun en => ∃ u, en = [sc, sr, .fz (rl rule), sp, .un, .un, u, .un, .un]) (by simp) (by simp) (by simp; omega) ⟨_, rfl⟩ ?_ ?_
    · rw [this]
      have e := foldl_put (xs := rule.1) (ks := [])
      simp only [List.map_nil] at e
      rw [e]; rfl
    · rintro x hx en ⟨u, rfl⟩
      exact ⟨[sc, sr, .fz (rl rule), sp, .un, .un, .fz (.str x), .un, .un], by simp, [sc, sr, .fz (rl rule), sp, .un, .un, .fz (.str x), .un, .un], by simp [D.key], _, rfl⟩
    · rintro en ⟨u, rfl⟩
      exact ⟨rfl, by simp⟩
  have main : wp (exc (R (n + 2)) 100000 (.seq (.for_ (.nm 5) (.seq (.var 3)) (.seq (.ifs (.or (.tst (.isi ["bool"] (.var 5))) (.or (.not (.tst (.isi ["int"] (.var 5)))) (.one (.not (.tst (.chn .le .lt (.cst (.int 0)) (.var 5) (.blt .len [(.var 1)]))))))) (.seq (.ret (.cst (.bl false)))
      .skip) .skip)
    (.seq (.unp (.tp [(.nm 7), (.nm 8)]) (.idx (.var 1) (.var 5)))
    (.seq (.ifs (.not (.tst (.call 2 [(.var 7), (.var 4)]))) (.seq (.ret (.cst (.bl false)))
      .skip) .skip)
    (.seq (.for_ (.nm 6) (.seq (.var 8)) (.seq (.sidx 4 (.var 6) (.cst (.bl true)))
      .skip))
    .skip)))))
  (.seq (.ret (.call 2 [(.idx (.var 2) (.cst (.int 1))), (.var 4)]))
  .skip)) [sc, sr, .fz (rl rule), sp, .ow 1 (setD (addK [] rule.1)), .un, .un, .un, .un]) (fun fl env => match fl with
      | .nx => argOuts env 0 [sc, sr, .fz (rl rule), sp] = some [sc, sr, .fz (rl rule), sp] ∧ RV.fz (.bl (isDer rules rule ps)) = .fz .non
      | .ret r' => argOuts env 0 [sc, sr, .fz (rl rule), sp] = some [sc, sr, .fz (rl rule), sp] ∧ r' = .fz (.bl (isDer rules rule ps))
      | _ => False) (fun _ => False) := by
    rw [wp_seq]
    refine wp_for (xs := ps) (g := D.int) (evi_sq hp rfl) (fun p e => ∃ k v5 v6 v7 v8, walkK rules (addK [] rule.1) p = some k ∧ fr v5 = true ∧ fr v6 = true ∧ fr v7 = true ∧ fr v8 = true ∧ e = [sc, sr, .fz (rl rule), sp, .ow 1 (setD k), v5, v6, v7, v8]) ?_ ?_ ?_
    · rw [lock_sq hp rfl]; exact ⟨_, _, _, _, _, rfl, rfl, rfl, rfl, rfl, rfl⟩
    · rintro p i q e hx ⟨k, v5, v6, v7, v8, hk, f5, f6, f7, f8, rfl⟩
      obtain ⟨knd, kin⟩ := walkK_in G.w p _ k (addK_nodup List.nodup_nil) (fun c hc => L1.sub c (by simpa [mem_addK] using hc)) hk
      refine ⟨held_sq hp rfl, [sc, sr, .fz (rl rule), sp, .ow 1 (setD k), .fz (.int i), v6, v7, v8], by simp [f5], ?_⟩
      have aout : ∀ k v5 v6 v7 v8, argOut [sc, sr, .fz (rl rule), sp, k, v5, v6, v7, v8] 3 sp = some sp := fun _ _ _ _ _ => argOut_sq hp rfl
      have ulk : ∀ k v5 v6 v7 v8, unlockE (lkOf 3 sp) [sc, sr, .fz (rl rule), sp, k, v5, v6, v7, v8] = [sc, sr, .fz (rl rule), sp, k, v5, v6, v7, v8] := fun _ _ _ _ _ => unlock_sq hp rfl
      have hld : ∀ k v5 v6 v7 v8, held (lkOf 3 sp) [sc, sr, .fz (rl rule), sp, k, v5, v6, v7, v8] = true := fun _ _ _ _ _ => held_sq hp rfl
      by_cases hi0 : 0 ≤ i
      · by_cases hi1 : i < rules.length
        · obtain ⟨r, hir⟩ : ∃ r, rules[i.toNat]? = some r := ⟨_, List.getElem?_eq_getElem (by omega)⟩
          have hrm : r ∈ rules := List.mem_of_getElem? hir
          have hrl := G.rl r hrm
          have hix : ∀ d : D, (d = .lst (rules.map rl) ∨ d = .tup (rules.map rl)) → didx d (.int i) = some (rl r) := by
            intro d hd
            rcases hd with rfl | rfl <;> (simp only [didx]; rw [atI_int hi0 (by simpa using hi1)]; simp [hir])
          have hx1 := hix _ (.inl rfl)
          have hx2 := hix _ (.inr rfl)
          have h3 := all_in_eq (n := n + 1) (names := r.1) (Kn.p (ks := k)) (by simp; omega)
          have hrl' : ∀ e, tgt (.tp [.nm 7, .nm 8]) (rl r) e = tgt (.tp [.nm 7, .nm 8]) (.tup [.tup (r.1.map D.str), .tup (r.2.map D.str)]) e := fun _ => rfl
          have hv1 : ev (R (n + 2)) (.idx (.var 1) (.var 5)) [sc, sr, .fz (rl rule), sp, .ow 1 (setD k), .fz (.int i), v6, v7, v8] = .ok (.fz (rl r)) [sc, sr, .fz (rl rule), sp, .ow 1 (setD k), .fz (.int i), v6, v7, v8] := by cases hr <;> simp [hx1, hx2]
          have hv2 : ev (R (n + 2)) (.blt .len [(.var 1)]) [sc, sr, .fz (rl rule), sp, .ow 1 (setD k), .fz (.int i), v6, v7, v8] = .ok (.fz (.int rules.length)) [sc, sr, .fz (rl rule), sp, .ow 1 (setD k), .fz (.int i), v6, v7, v8] := by cases hr <;> simp
          by_cases hs : sub r.1 k = true
          · rw [hs] at h3
            have hk' : walkK rules (addK [] rule.1) (p ++ [i]) = some (addK k r.2) := by
              rw [walkK_snoc hk]; unfold walkK; rw [if_pos ⟨hi0, hi1⟩, hir]; simp [walkK, hs]
            simp [-ev_idx, -ev_blt, hv1, hv2, hi0, hi1, hrl', f7, f8, h3]
            refine wp_for (xs := r.2) (g := D.str) (lk := none) (e1 := [sc, sr, .fz (rl rule), sp, .ow 1 (setD k), .fz (.int i), v6, .fz (.tup (r.1.map D.str)), .fz (.tup (r.2.map D.str))]) (by simp) (fun p e => ∃ v6, fr v6 = true ∧ e = [sc, sr, .fz (rl rule), sp, .ow 1 (setD (addK k p)), .fz (.int i), v6, .fz (.tup (r.1.map D.str)), .fz (.tup (r.2.map D.str))]) ?_ ?_ ?_
            · exact ⟨_, f6, rfl⟩
            · rintro p' y q' e hy ⟨v6, f6, rfl⟩
              have hkl : (addK k p').length < 16777216 := by
                have : (addK k p').length ≤ cols.length := nodup_le (addK_nodup knd) fun c hc => by
                  rcases mem_addK.1 hc with hc | hc
                  · exact kin c hc
                  · exact (G.w r hrm).2 c (by rw [hy]; simp [hc])
                have := G.len
                omega
              exact ⟨rfl, [sc, sr, .fz (rl rule), sp, .ow 1 (setD (addK k p')), .fz (.int i), .fz (.str y), .fz (.tup (r.1.map D.str)), .fz (.tup (r.2.map D.str))], by simp [f6], by simp [hkl, addK_snoc]⟩
            · rintro e ⟨v6, f6, rfl⟩
              simp only [exc_skip, wp_ok]
              refine ⟨rfl, ?_⟩
              first | exact ⟨_, hk', _, rfl, _, f6, _, rfl, _, rfl, rfl⟩ | exact ⟨_, _, _, _, _, hk', rfl, f6, rfl, rfl, rfl⟩ | (simp [hk']; exact ⟨_, rfl, _, f6, _, rfl, _, rfl, rfl, rfl, rfl, rfl⟩)
          · have hs' : sub r.1 k = false := by simpa using hs
            rw [hs'] at h3
            have hd : isDer rules rule ps = false := by
              rw [hx]; exact isDer_none hk (by unfold walkK; rw [if_pos ⟨hi0, hi1⟩, hir]; simp [hs'])
            cases hc <;> cases hr <;> simp [hi0, hi1, hx1, hx2, hrl', f7, f8, h3, hd, hld, ulk, aout]
        · have hd : isDer rules rule ps = false := by
            rw [hx]; exact isDer_none hk (by simp [walkK, hi1])
          cases hc <;> cases hr <;> simp [hi0, hi1, hd, hld, ulk, aout]
      · have hd : isDer rules rule ps = false := by
          rw [hx]; exact isDer_none hk (by simp [walkK, hi0])
        cases hc <;> cases hr <;> simp [hi0, hd, hld, ulk, aout]
    · rintro e ⟨k, v5, v6, v7, v8, hk, f5, f6, f7, f8, rfl⟩
      refine ⟨held_sq hp rfl, ?_⟩
      rw [unlock_sq hp rfl]
      have h4 := all_in_eq (n := n + 1) (names := rule.2) (Kn.p (ks := k)) (by simp; omega)
      have hd : isDer rules rule ps = sub rule.2 k := by unfold isDer; rw [hk]
      have a0 : ∀ k v5 v6 v7 v8, argOut [sc, sr, .fz (rl rule), sp, k, v5, v6, v7, v8] 0 sc = some sc := fun _ _ _ _ _ => argOut_sq hc rfl
      have a1 : ∀ k v5 v6 v7 v8, argOut [sc, sr, .fz (rl rule), sp, k, v5, v6, v7, v8] 1 sr = some sr := fun _ _ _ _ _ => argOut_sq hr rfl
      have a3 : ∀ k v5 v6 v7 v8, argOut [sc, sr, .fz (rl rule), sp, k, v5, v6, v7, v8] 3 sp = some sp := fun _ _ _ _ _ => argOut_sq hp rfl
      simp [h4, hd, a0, a1, a3]
  unfold fis_derivation
  refine wp_step (e' := [sc, sr, .fz (rl rule), sp, .un, .un, .un, .un, .un]) (by cases hc <;> cases hr <;> simp [h1]) ?_
  refine wp_step (e' := [sc, sr, .fz (rl rule), sp, .un, .un, .un, .un, .un]) (by cases hc <;> simp [h2]) ?_
  refine wp_step_ifs (e' := [sc, sr, .fz (rl rule), sp, .un, .un, .un, .un, .un]) (by cases hp <;> simp) rfl ?_
  refine wp_step (e' := [sc, sr, .fz (rl rule), sp, .ow 1 (setD (addK [] rule.1)), .un, .un, .un, .un]) (by simp [h0]) ?_
  exact main
end
end K81
end
section
set_option Elab.async false
set_option linter.all false
set_option maxRecDepth 100000
set_option maxHeartbeats 1000000
namespace K81
open PySem L2 Mi Mi.Px Pm
def cell (cols : List Str) (r : List Str) (c : Str) : Str := (r[cols.idxOf c]?).getD ""
def rowD (r : List Str) : D := .tup (r.map D.str)
def placesD (cols : List Str) : D := .dk (cols.map Sum.inr) ((cols.zipIdx 0).map fun p => .int (p.2 : Int))
def foundD (F : List (List Str × List Str)) : D := .dt (F.map fun p => p.1.map Sum.inr) (F.map fun p => .tup (p.2.map D.str))
@[simp] theorem flatter_places {cols} : flatter 1 (placesD cols) = some (placesD cols) := rfl
@[simp] theorem flatter_found {F} : flatter 1 (foundD F) = some (foundD F) := rfl
@[simp] theorem fits_found {n F} : mutFits .setd (some (n, foundD F)) = true := rfl
theorem fold_places : ∀ (xs ks : List Str) (k : Nat) (vs : List D), (∀ x ∈ xs, x ∉ ks) → xs.Nodup →
    (xs.zipIdx k).foldl (fun a p => put (Sum.inr p.1 : Key) (D.int (p.2 : Int)) a.1 a.2) (ks.map Sum.inr, vs) = ((ks ++ xs).map Sum.inr, vs ++ (xs.zipIdx k).map fun p => D.int (p.2 : Int))
  | [], ks, k, vs, _, _ => by simp
  | x :: xs, ks, k, vs, h, hn => by
    rw [List.nodup_cons] at hn
    have hx : x ∉ ks := h x (List.mem_cons_self ..)
    simp only [List.zipIdx_cons, List.foldl_cons]
    have e : put (Sum.inr x : Key) (D.int (k : Int)) (ks.map Sum.inr) vs = ((ks ++ [x]).map Sum.inr, vs ++ [D.int (k : Int)]) := by
      unfold put
      rw [if_neg (by simpa using hx)]; simp
    rw [e, fold_places xs (ks ++ [x]) (k + 1) _ (fun y hy => by
      simp only [List.mem_append, List.mem_singleton, not_or]
      exact ⟨h y (List.mem_cons_of_mem _ hy), fun e => hn.1 (e ▸ hy)⟩) hn.2]
    simp
theorem look_places {c : Str} : ∀ (xs : List Str) (k : Nat), c ∈ xs → look (Sum.inr c : Key) (xs.map Sum.inr) ((xs.zipIdx k).map fun p => D.int (p.2 : Int)) = some (.int ((k + xs.idxOf c : Nat) : Int))
  | [], _, h => by cases h
  | x :: xs, k, h => by
    simp only [List.map_cons, List.zipIdx_cons, look]
    by_cases hx : x = c
    · subst hx; simp
    · rw [if_neg (by simpa using hx), look_places xs (k + 1) (by rcases List.mem_cons.1 h with e | h; { exact absurd e.symm hx }; { exact h })]
      rw [List.idxOf_cons]
      simp only [show (x == c) = false by simpa using hx, cond_false]
      congr 3
      omega
theorem didx_places {cols : List Str} {c : Str} (h : c ∈ cols) : didx (placesD cols) (.str c) = some (.int (cols.idxOf c : Nat)) := by
  show ((D.str c).key.bind fun k => look k (cols.map Sum.inr) ((cols.zipIdx 0).map fun p => D.int (p.2 : Int))) = _
  simp only [D.key, Option.bind_some]
  rw [look_places cols 0 h]
  simp
theorem didx_cell {cols r : List Str} {c : Str} (h : c ∈ cols) (hr : r.length = cols.length) : didx (rowD r) (.int (cols.idxOf c : Nat)) = some (.str (cell cols r c)) := by
  have hi := List.idxOf_lt_length_of_mem h
  show atI (r.map D.str) _ = _
  rw [atI_nat (by simpa [hr] using hi)]
  unfold cell
  rw [List.getElem?_map]
  cases h : r[cols.idxOf c]? with
  | none => rw [List.getElem?_eq_none_iff] at h; omega
  | some x => rfl
theorem keys_strs : ∀ (l : List Str), D.keys (.tup (l.map D.str)) = some (l.map Sum.inr)
  | [] => rfl
  | x :: l => by
    have := keys_strs l
    simp only [D.keys] at this ⊢
    rw [List.map_cons, List.mapM_cons, this]; rfl
theorem inr_map_inj : ∀ {a b : List Str}, (a.map Sum.inr : List Key) = b.map Sum.inr ↔ a = b
  | [], [] => by simp
  | [], _ :: _ => by simp
  | _ :: _, [] => by simp
  | x :: a, y :: b => by simp [inr_map_inj (a := a) (b := b)]
theorem look_found (k : List Str) : ∀ (F : List (List Str × List Str)), look (k.map Sum.inr : List Key) (F.map fun p => p.1.map Sum.inr) (F.map fun p => D.tup (p.2.map D.str)) = (lk k F).map fun t => D.tup (t.map D.str)
  | [] => rfl
  | (a, b) :: F => by
    simp only [List.map_cons, look, lk]
    by_cases h : a = k
    · subst h; simp
    · rw [if_neg (fun e => h (inr_map_inj.1 e)), look_found k F, if_neg h]
theorem lookup_mem {k : List Str} : ∀ (F : List (List Str × List Str)), lk k F = none → ∀ p ∈ F, p.1 ≠ k
  | [], _, _, h => by cases h
  | (a, b) :: F, hl, p, h => by
    simp only [lk] at hl
    by_cases e : a = k
    · rw [if_pos e] at hl; cases hl
    · rw [if_neg e] at hl
      rcases List.mem_cons.1 h with rfl | h
      · exact e
      · exact lookup_mem F hl p h
theorem mut_found {F : List (List Str × List Str)} {k t : List Str} (h : F.length < lim) : mutate .setd 1 (foundD F) [.tup (k.map D.str), .tup (t.map D.str)] = some (.fz (.tup (((lk k F).getD t).map D.str)), foundD (match lk k F with | some _ => F | none => F ++ [(k, t)])) := by
  unfold mutate foundD
  simp only [dsize, List.length_map]
  rw [if_pos h]
  simp only [dget, keys_strs, Option.map_some, look_found]
  cases hl : lk k F with
  | some u => simp
  | none =>
    simp only [Option.map_none, dput, List.length_map]
    rw [if_pos h, keys_strs]
    simp only [Option.map_some, put]
    rw [if_neg (by
      simp only [List.any_map, List.any_eq_true, not_exists, not_and]
      intro p hp
      simp only [Function.comp, decide_eq_true_eq]
      exact fun e => lookup_mem F hl p hp (inr_map_inj.1 e))]
    simp
/-- rows that fit the columns -/
def Rw (cols : List Str) (rows : List (List Str)) : Prop := ∀ r ∈ rows, r.length = cols.length ∧ ∀ x ∈ r, okS x = true
theorem okS_nil : okS "" = true := by decide +kernel
theorem cell_ok {cols r : List Str} {c : Str} (h : ∀ x ∈ r, okS x = true) : okS (cell cols r c) = true := by
  unfold cell
  cases e : r[cols.idxOf c]? with
  | none => exact okS_nil
  | some x => exact h x (List.mem_of_getElem? e)
def fk (cols l : List Str) (r : List Str) : List Str := l.map (cell cols r)
instance {ρ κ τ : Type} [DecidableEq κ] [DecidableEq τ] (f : ρ → κ) (g : ρ → τ) (rows : List ρ) : Decidable (Pm.Kept f g rows) := by unfold Pm.Kept; infer_instance
/-- the law's own comparison -/
def kept (cols : List Str) (rows : List (List Str)) (rule : Rule Str) : Bool := decide (Pm.Kept (fk cols rule.1) (fk cols rule.2) rows)
section
variable {n : Nat} {cols : List Str} {sc sr : SV} {rows : List (List Str)} {rule : Rule Str} (hn : cols.Nodup) (hcl : cols.length < 1000) (hc : Sq sc (sts cols)) (hr : Sq sr (rows.map rowD)) (hrl : rows.length < 1000) (L1 : Lf cols rule.1) (L2' : Lf cols rule.2) (W : Rw cols rows)
include hn hcl hc hr hrl L1 L2' W
theorem keeps_eq : R (n + 3) 4 [sc, sr, .fz (rl rule)] = .ok (.fz (.bl (kept cols rows rule))) [sc, sr, .fz (rl rule)] := by
  have h2 := look1_ok (n := n) hc L1 L2'
  have hl1 := L1.len
  have hl2 := L2'.len
  refine eq_def rfl rfl ?_
  show wp (exc _ _ fkeeps.body [sc, sr, .fz (rl rule), .un, .un, .un, .un, .un, .un, .un, .un, .un]) _ _
  have h0 : ev (R (n + 2)) (.dcp [("at", 10), ("name", 11)] (.tp [(.nm 10), (.nm 11)]) (.enm (.var 0)) none (.var 11) (.var 10)) [sc, sr, .fz (rl rule), .un, .un, .un, .un, .un, .un, .un, .un, .un] = .ok (.ow 1 (placesD cols)) [sc, sr, .fz (rl rule), .un, .un, .un, .un, .un, .un, .un, .un, .un] := by
    have := ev_dcp (Φ := R (n + 2)) (own := [(("at" : Str), 10), (("name" : Str), 11)]) (tg := .tp [(.nm 10), (.nm 11)]) (src := .enm (.var 0)) (c := none) (k := .var 11) (e := .var 10) (xs := cols.zipIdx 0) (g := fun p => D.tup [.int (p.2 : Int), D.str p.1]) (env := [sc, sr, .fz (rl rule), .un, .un, .un, .un, .un, .un, .un, .un, .un]) (e1 := [sc, sr, .fz (rl rule), .un, .un, .un, .un, .un, .un, .un, .un, .un]) (lk := lkOf 0 sc) (fun p => (Sum.inr p.1, .int (p.2 : Int))) (fun en => ∃ u v, en = [sc, sr, .fz (rl rule), .un, .un, .un, .un, .un, .un, .un, u, v]) (by rw [evi_sq_enm hc rfl, enumD_map]) (by simp) (by simp; omega) (by rw [lock_sq hc rfl]; exact ⟨_, _, rfl⟩) ?_ ?_
    · rw [this]
      have e := fold_places cols [] 0 [] (by simp) hn
      simp only [List.map_nil, List.nil_append] at e
      rw [e]; rfl
    · rintro x hx en ⟨u, v, rfl⟩
      exact ⟨[sc, sr, .fz (rl rule), .un, .un, .un, .un, .un, .un, .un, .fz (.int (x.2 : Int)), .fz (.str x.1)], by simp, [sc, sr, .fz (rl rule), .un, .un, .un, .un, .un, .un, .un, .fz (.int (x.2 : Int)), .fz (.str x.1)], by simp [D.key], _, _, rfl⟩
    · rintro en ⟨u, v, rfl⟩
      refine ⟨held_sq hc rfl, ?_⟩
      have : undo [sc, sr, .fz (rl rule), .un, .un, .un, .un, .un, .un, .un, .un, .un] [sc, sr, .fz (rl rule), .un, .un, .un, .un, .un, .un, .un, u, v] [10, 11] = [sc, sr, .fz (rl rule), .un, .un, .un, .un, .un, .un, .un, .un, .un] := by simp
      show unlockE _ (undo _ _ [10, 11]) = _
      rw [this, unlock_sq hc rfl]
  unfold fkeeps
  refine wp_step (e' := [sc, sr, .fz (rl rule), .un, .un, .un, .un, .un, .un, .un, .un, .un]) (by cases hc <;> simp [h2]) ?_
  refine wp_step (e' := [sc, sr, .fz (rl rule), .ow 1 (placesD cols), .un, .un, .un, .un, .un, .un, .un, .un]) (by simp [h0]) ?_
  refine wp_step (e' := [sc, sr, .fz (rl rule), .ow 1 (placesD cols), .un, .un, .fz (.tup (rule.1.map D.str)), .fz (.tup (rule.2.map D.str)), .un, .un, .un, .un]) (by simp [rl]) ?_
  refine wp_step (e' := [sc, sr, .fz (rl rule), .ow 1 (placesD cols), .ow 1 (foundD []), .un, .fz (.tup (rule.1.map D.str)), .fz (.tup (rule.2.map D.str)), .un, .un, .un, .un]) (by simp [foundD]) ?_
  rw [wp_seq]
  refine wp_for (xs := rows) (g := rowD) (evi_sq hr rfl) (fun p e => ∃ F v5 v8 v9, Fnd (fk cols rule.1) (fk cols rule.2) p F ∧ fr v5 = true ∧ fr v8 = true ∧ fr v9 = true ∧ e = [sc, sr, .fz (rl rule), .ow 1 (placesD cols), .ow 1 (foundD F), v5, .fz (.tup (rule.1.map D.str)), .fz (.tup (rule.2.map D.str)), v8, v9, .un, .un]) ?_ ?_ ?_
  · rw [lock_sq hr rfl]; exact ⟨[], _, _, _, fnd_nil _ _, rfl, rfl, rfl, rfl⟩
  · rintro p r q e hx ⟨F, v5, v8, v9, hF, f5, f8, f9, rfl⟩
    obtain ⟨hrlen, hrok⟩ := W r (by rw [hx]; simp)
    refine ⟨held_sq hr rfl, [sc, sr, .fz (rl rule), .ow 1 (placesD cols), .ow 1 (foundD F), .fz (rowD r), .fz (.tup (rule.1.map D.str)), .fz (.tup (rule.2.map D.str)), v8, v9, .un, .un], by simp [f5], ?_⟩
    have hk : ∀ v8 v9, ev (R (n + 2)) (.lcp [("name", 11)] (.nm 11) (.seq (.var 6)) none (.idx (.var 5) (.idx (.var 3) (.var 11)))) [sc, sr, .fz (rl rule), .ow 1 (placesD cols), .ow 1 (foundD F), .fz (rowD r), .fz (.tup (rule.1.map D.str)), .fz (.tup (rule.2.map D.str)), v8, v9, .un, .un] = .ok (.ow 1 (.lst (rule.1.filterMap fun c => some (D.str (cell cols r c))))) [sc, sr, .fz (rl rule), .ow 1 (placesD cols), .ow 1 (foundD F), .fz (rowD r), .fz (.tup (rule.1.map D.str)), .fz (.tup (rule.2.map D.str)), v8, v9, .un, .un] := by
      intro v8 v9
      refine ev_lcp0 (xs := rule.1) (g := D.str) _ (e1 := [sc, sr, .fz (rl rule), .ow 1 (placesD cols), .ow 1 (foundD F), .fz (rowD r), .fz (.tup (rule.1.map D.str)), .fz (.tup (rule.2.map D.str)), v8, v9, .un, .un]) (lk := none) (by simp) (by simp) (by simp; omega) (fun _ _ h => by cases h) (fun c hcm => ?_)
      simp [didx_places (L1.sub c hcm), didx_cell (L1.sub c hcm) hrlen]
    have ht : ∀ v8 v9, ev (R (n + 2)) (.lcp [("name", 11)] (.nm 11) (.seq (.var 7)) none (.idx (.var 5) (.idx (.var 3) (.var 11)))) [sc, sr, .fz (rl rule), .ow 1 (placesD cols), .ow 1 (foundD F), .fz (rowD r), .fz (.tup (rule.1.map D.str)), .fz (.tup (rule.2.map D.str)), v8, v9, .un, .un] = .ok (.ow 1 (.lst (rule.2.filterMap fun c => some (D.str (cell cols r c))))) [sc, sr, .fz (rl rule), .ow 1 (placesD cols), .ow 1 (foundD F), .fz (rowD r), .fz (.tup (rule.1.map D.str)), .fz (.tup (rule.2.map D.str)), v8, v9, .un, .un] := by
      intro v8 v9
      refine ev_lcp0 (xs := rule.2) (g := D.str) _ (e1 := [sc, sr, .fz (rl rule), .ow 1 (placesD cols), .ow 1 (foundD F), .fz (rowD r), .fz (.tup (rule.1.map D.str)), .fz (.tup (rule.2.map D.str)), v8, v9, .un, .un]) (lk := none) (by simp) (by simp) (by simp; omega) (fun _ _ h => by cases h) (fun c hcm => ?_)
      simp [didx_places (L2'.sub c hcm), didx_cell (L2'.sub c hcm) hrlen]
    have ek : (rule.1.filterMap fun c => some (D.str (cell cols r c))) = (fk cols rule.1 r).map D.str := by simp [fk]
    have et : (rule.2.filterMap fun c => some (D.str (cell cols r c))) = (fk cols rule.2 r).map D.str := by simp [fk]
    rw [ek] at hk
    rw [et] at ht
    have hFl : F.length < lim := by have := hF.len; have h3 : rows.length = p.length + (q.length + 1) := by { rw [hx]; simp }; simp; omega
    have hm := mut_found (F := F) (k := fk cols rule.1 r) (t := fk cols rule.2 r) hFl
    refine wp_step (e' := [sc, sr, .fz (rl rule), .ow 1 (placesD cols), .ow 1 (foundD F), .fz (rowD r), .fz (.tup (rule.1.map D.str)), .fz (.tup (rule.2.map D.str)), .fz (.tup ((fk cols rule.1 r).map D.str)), v9, .un, .un]) (by simp [hk, f8]) ?_
    refine wp_step (e' := [sc, sr, .fz (rl rule), .ow 1 (placesD cols), .ow 1 (foundD F), .fz (rowD r), .fz (.tup (rule.1.map D.str)), .fz (.tup (rule.2.map D.str)), .fz (.tup ((fk cols rule.1 r).map D.str)), .fz (.tup ((fk cols rule.2 r).map D.str)), .un, .un]) (by simp [ht, f9]) ?_
    have hokr : ∀ l, ∀ x ∈ fk cols l r, okS x = true := by
      intro l x hx
      simp only [fk, List.mem_map] at hx
      obtain ⟨c, _, rfl⟩ := hx
      exact cell_ok hrok
    cases hlk : lk (fk cols rule.1 r) F with
    | none =>
      rw [hlk] at hm
      simp only [Option.getD_none] at hm
      have hd := deq_tstrs (hokr rule.2) (hokr rule.2)
      simp only [decide_true] at hd
      have hst := fnd_step hF (r := r) (fun t h => by rw [hlk] at h; cases h)
      simp [hm, hd]
      refine ⟨F ++ [(fk cols rule.1 r, fk cols rule.2 r)], ?_, _, rfl, _, rfl, _, rfl, rfl, rfl, rfl, rfl⟩
      have e : fstep (fk cols rule.1) (fk cols rule.2) F r = F ++ [(fk cols rule.1 r, fk cols rule.2 r)] := by unfold fstep; rw [hlk]
      rw [← e]; exact hst
    | some t =>
      rw [hlk] at hm
      simp only [Option.getD_some] at hm
      obtain ⟨s, hs1, hs2, hs3⟩ := hF.of _ _ hlk
      have hokt : ∀ x ∈ t, okS x = true := by
        intro x hx'
        rw [← hs3] at hx'
        simp only [fk, List.mem_map] at hx'
        obtain ⟨c, _, rfl⟩ := hx'
        exact cell_ok (W s (by rw [hx]; simp [hs1])).2
      have hd := deq_tstrs hokt (hokr rule.2)
      by_cases he : t = fk cols rule.2 r
      · have hst := fnd_step hF (r := r) (fun t' h => by rw [hlk] at h; cases h; exact he)
        subst he
        simp only [decide_true] at hd
        simp [hm, hd]
        refine ⟨F, ?_, _, rfl, _, rfl, _, rfl, rfl, rfl, rfl, rfl⟩
        have e : fstep (fk cols rule.1) (fk cols rule.2) F r = F := by unfold fstep; rw [hlk]
        rw [e] at hst; exact hst
      · have hnk : kept cols rows rule = false := by
          unfold kept
          rw [decide_eq_false_iff_not, hx]
          exact not_kept hF hlk he
        have hld : ∀ a b c d e' f g h i j, held (lkOf 1 sr) [sc, sr, a, b, c, d, e', f, g, h, i, j] = true := fun _ _ _ _ _ _ _ _ _ _ => held_sq hr rfl
        have ulk : ∀ a b c d e' f g h i j, unlockE (lkOf 1 sr) [sc, sr, a, b, c, d, e', f, g, h, i, j] = [sc, sr, a, b, c, d, e', f, g, h, i, j] := fun _ _ _ _ _ _ _ _ _ _ => unlock_sq hr rfl
        have a0 : ∀ a b c d e' f g h i j, argOut [sc, sr, a, b, c, d, e', f, g, h, i, j] 0 sc = some sc := fun _ _ _ _ _ _ _ _ _ _ => argOut_sq hc rfl
        have a1 : ∀ a b c d e' f g h i j, argOut [sc, sr, a, b, c, d, e', f, g, h, i, j] 1 sr = some sr := fun _ _ _ _ _ _ _ _ _ _ => argOut_sq hr rfl
        simp [hm, hd, he, hnk, hld, ulk, a0, a1]
  · rintro e ⟨F, v5, v8, v9, hF, f5, f8, f9, rfl⟩
    refine ⟨held_sq hr rfl, ?_⟩
    rw [unlock_sq hr rfl]
    have hk : kept cols rows rule = true := by unfold kept; rw [decide_eq_true_eq]; exact kept_of hF
    have a0 : ∀ a b c d e' f g h i j, argOut [sc, sr, a, b, c, d, e', f, g, h, i, j] 0 sc = some sc := fun _ _ _ _ _ _ _ _ _ _ => argOut_sq hc rfl
    have a1 : ∀ a b c d e' f g h i j, argOut [sc, sr, a, b, c, d, e', f, g, h, i, j] 1 sr = some sr := fun _ _ _ _ _ _ _ _ _ _ => argOut_sq hr rfl
    simp [hk, a0, a1]
end
end K81
end
section
set_option Elab.async false
set_option linter.all false
set_option maxRecDepth 100000
set_option maxHeartbeats 1000000
namespace K81
open PySem L2 Mi Mi.Px Pm
def stD (row : List Int) (p : Int) : D := .lst [.lst (row.map D.int), .int p]
@[simp] theorem flatter_st {row p} : flatter 1 (stD row p) = some (stD row p) := rfl
@[simp] theorem didx_st0 {row p} : didx (stD row p) (.int 0) = some (.lst (row.map D.int)) := didx_l0
@[simp] theorem didx_st1 {row p} : didx (stD row p) (.int 1) = some (.int p) := didx_l1
@[simp] theorem sidx_st1 {row p q} : sidxD (stD row p) (.int 1) (.int q) = some (stD row q) := by simp [stD, sidxD, ixN]
theorem sm62 {j : Nat} (h : j < 1000000) : small62 (j : Int) = true := by
  unfold small62
  rw [show ((2:Int)^62) = 4611686018427387904 by decide]
  rw [Bool.and_eq_true, decide_eq_true_eq, decide_eq_true_eq]
  omega
theorem evi_rng {Φ : Calls} {env : Mi.Env} {a : Ex} {j : Nat} (h : ev Φ a env = .ok (.fz (.int (j : Int))) env) (hj : j < 1000000) : evi Φ (.rng1 a) env = .ok ((List.range j).map (fun (k : Nat) => D.int (k : Int)), none) env := by
  rw [evi_rng1, h, Rs.bind_ok]
  simp only [sm62 hj, if_true]
  have : rngD 0 (j : Int) = (List.range j).map fun (k : Nat) => D.int (k : Int) := by simp [rngD]
  rw [this]
theorem rng_map {j : Nat} : rngD 0 (j : Int) = (List.range j).map fun (k : Nat) => D.int (k : Int) := by simp [rngD]
theorem range_mem {j k : Nat} {p q : List Nat} (h : List.range j = p ++ k :: q) : k < j := by
  have : k ∈ List.range j := by rw [h]; simp
  simpa using this
theorem range_pos {j k : Nat} {p q : List Nat} (h : List.range j = p ++ k :: q) : p.length = k := by
  have h1 : (List.range j)[p.length]? = some k := by rw [h]; simp
  rw [List.getElem?_range] at h1
  · exact Option.some.inj h1
  · rcases Nat.lt_or_ge p.length j with h2 | h2
    · exact h2
    · have := congrArg List.length h; simp at this; omega
theorem take_eq {n : Nat} {row : List Int} {p many : Int} (hm : 0 < many) (hp : 0 ≤ p) :
    ∃ v p', R (n + 1) 11 [.pn 1 (stD row p), .fz (.int many)] = .ok (.fz (.int v)) [.pn 1 (stD row p'), .fz (.int many)] ∧ 0 ≤ v ∧ v < many ∧ 0 ≤ p' := by
  have hv : ∀ a : Int, 0 ≤ a % many ∧ a % many < many := fun a => ⟨Int.emod_nonneg a (by omega), Int.emod_lt_of_pos a hm⟩
  generalize hw : (1 + (if (10 : Int) < many then 1 else 0) + (if (100 : Int) < many then 1 else 0) : Int) = w
  have hw0 : 0 ≤ w := by rw [← hw]; split <;> split <;> omega
  have hw1 : w ≤ 3 := by rw [← hw]; split <;> split <;> omega
  by_cases hl : (row.length : Int) < p + w
  · refine ⟨(7 * p + 3) % many, p + w, ?_, (hv _).1, (hv _).2, by omega⟩
    refine eq_def rfl rfl ?_
    show wp (exc _ _ f_law_take.body [.pn 1 (stD row p), .fz (.int many), .un, .un, .un, .un]) _ _
    unfold f_law_take
    simp [hw, hl, hm]
  · suffices key : ∀ Q : RV → List SV → Prop, (∀ a : Int, Q (.fz (.int (a % many))) [.pn 1 (stD row (p + w)), .fz (.int many)]) → ∃ r ts, R (n + 1) 11 [.pn 1 (stD row p), .fz (.int many)] = .ok r ts ∧ Q r ts by
      obtain ⟨r, ts, h, a, rfl, rfl⟩ := key (fun r ts => ∃ a : Int, r = .fz (.int (a % many)) ∧ ts = [.pn 1 (stD row (p + w)), .fz (.int many)]) (fun a => ⟨a, rfl, rfl⟩)
      exact ⟨_, _, h, (hv a).1, (hv a).2, by omega⟩
    intro Q hQ
    refine gives_def rfl rfl ?_
    show wp (exc _ _ f_law_take.body [.pn 1 (stD row p), .fz (.int many), .un, .un, .un, .un]) _ _
    unfold f_law_take
    simp [hw, hl, hm]
    obtain ⟨j, rfl⟩ : ∃ j : Nat, w = j := ⟨w.toNat, by omega⟩
    refine wp_for (xs := List.range j) (g := fun (k : Nat) => D.int (k : Int)) (lk := none) (e1 := [.pn 1 (stD row (p + j)), .fz (.int many), .fz (.int p), .fz (.int j), .fz (.int 0), .un]) (evi_rng (by simp) (by omega)) (fun _ e => ∃ a v5, fr v5 = true ∧ e = [.pn 1 (stD row (p + j)), .fz (.int many), .fz (.int p), .fz (.int j), .fz (.int a), v5]) ?_ ?_ ?_
    · exact ⟨_, _, rfl, rfl⟩
    · rintro p' k q e hx ⟨a, v5, f5, rfl⟩
      have hk := range_mem hx
      refine ⟨rfl, [.pn 1 (stD row (p + j)), .fz (.int many), .fz (.int p), .fz (.int j), .fz (.int a), .fz (.int k)], by simp [f5], ?_⟩
      have hix : didx (.lst (row.map D.int)) (.int (p + k)) = some (.int (row[(p + k).toNat]'(by omega))) := by
        simp only [didx]
        rw [atI_int (by omega) (by simp; omega)]
        simp
      simp [hix]
    · rintro e ⟨a, v5, f5, rfl⟩
      simp [hm]
      exact hQ a
theorem digits_eq {n : Nat} {xs : List Int} (hx : xs.length ≤ 63) : ∃ row : List Int, R (n + 1) 10 [.fz (.lst (xs.map D.int))] = .ok (.ow 1 (stD row 0)) [.fz (.lst (xs.map D.int))] := by
  suffices key : ∀ Q : RV → List SV → Prop, (∀ row, Q (.ow 1 (stD row 0)) [.fz (.lst (xs.map D.int))]) → ∃ r ts, R (n + 1) 10 [.fz (.lst (xs.map D.int))] = .ok r ts ∧ Q r ts by
    obtain ⟨r, ts, h, row, rfl, rfl⟩ := key (fun r ts => ∃ row, r = .ow 1 (stD row 0) ∧ ts = [.fz (.lst (xs.map D.int))]) (fun row => ⟨row, rfl, rfl⟩)
    exact ⟨_, h⟩
  intro Q hQ
  refine gives_def rfl rfl ?_
  show wp (exc _ _ f_law_digits.body [.fz (.lst (xs.map D.int)), .un, .un, .un, .un, .un, .un]) _ _
  unfold f_law_digits
  simp
  have hcut : cutD (xs.map D.int) none (some 63) = xs.map D.int := by
    have e : HT.sIx xs.length xs.length (some 63) = xs.length := by
      rw [show (63 : Int) = ((63 : Nat) : Int) from rfl, HT.sIx_nat]; omega
    unfold cutD
    simp only [List.length_map, e, HT.sIx_none, List.drop_zero, Nat.sub_zero]
    exact List.take_of_length_le (by simp)
  refine wp_for (xs := xs) (g := D.int) (lk := none) (e1 := [.fz (.lst (xs.map D.int)), .ow 1 (.lst []), .fz (.int 0), .un, .un, .un, .un]) (by simp [hcut]) (fun p e => ∃ (row : List Int) (pl : Int) (v3 v4 v5 v6 : SV), row.length ≤ 60 * p.length ∧ fr v3 = true ∧ fr v4 = true ∧ fr v5 = true ∧ fr v6 = true ∧ e = [.fz (.lst (xs.map D.int)), .ow 1 (.lst (row.map D.int)), .fz (.int pl), v3, v4, v5, v6]) ?_ ?_ ?_
  · exact ⟨[], 0, _, _, _, _, by simp, rfl, rfl, rfl, rfl, rfl⟩
  · rintro p x q e hxs ⟨row, pl, v3, v4, v5, v6, hlen, f3, f4, f5, f6, rfl⟩
    have hpl : p.length < 63 := by have := congrArg List.length hxs; simp at this; omega
    refine ⟨rfl, [.fz (.lst (xs.map D.int)), .ow 1 (.lst (row.map D.int)), .fz (.int pl), .fz (.int x), v4, v5, v6], by simp [f3], ?_⟩
    have inner : ∀ (rest : Int) (j : Nat) (Q : Fl → Mi.Env → Prop), j ≤ 60 → (∀ (row' : List Int) (rest' : Int) (v6 : SV), row'.length ≤ row.length + 60 → fr v6 = true → Q .nx [.fz (.lst (xs.map D.int)), .ow 1 (.lst (row'.map D.int)), .fz (.int pl), .fz (.int x), .fz (.int rest'), .fz (.int (j : Nat)), v6]) →
        wp (exc (R n) 100000 (.for_ (.nm 6) (.rng1 (.var 5)) (.seq (.ifs (.or (.tst (.cmp .eq (.var 5) (.cst (.int 6)))) (.one (.tst (.cmp .gt (.var 4) (.cst (.int 0)))))) (.seq (.expr (.mut .app 1 [(.bin .mod (.blt .int [(.var 4)]) (.cst (.int 10)))]))
        (.seq (.set 4 (.bin .fdv (.var 4) (.cst (.int 10))))
        .skip)) .skip)
      .skip)) [.fz (.lst (xs.map D.int)), .ow 1 (.lst (row.map D.int)), .fz (.int pl), .fz (.int x), .fz (.int rest), .fz (.int (j : Nat)), v6]) Q (fun _ => False) := by
      intro rest j Q hj hq
      refine wp_for (xs := List.range j) (g := fun (k : Nat) => D.int (k : Int)) (lk := none) (e1 := [.fz (.lst (xs.map D.int)), .ow 1 (.lst (row.map D.int)), .fz (.int pl), .fz (.int x), .fz (.int rest), .fz (.int (j : Nat)), v6]) (evi_rng (by simp) (by omega)) (fun p e => ∃ (row' : List Int) (rest' : Int) (v6 : SV), row'.length ≤ row.length + p.length ∧ fr v6 = true ∧ e = [.fz (.lst (xs.map D.int)), .ow 1 (.lst (row'.map D.int)), .fz (.int pl), .fz (.int x), .fz (.int rest'), .fz (.int (j : Nat)), v6]) ?_ ?_ ?_
      · exact ⟨row, rest, v6, by simp, f6, rfl⟩
      · rintro p' k q' e hk' ⟨row', rest', v6, hl', f6, rfl⟩
        have hkp := range_pos hk'
        have hkj := range_mem hk'
        have hrl : row'.length < 16777216 := by omega
        refine ⟨rfl, [.fz (.lst (xs.map D.int)), .ow 1 (.lst (row'.map D.int)), .fz (.int pl), .fz (.int x), .fz (.int rest'), .fz (.int (j : Nat)), .fz (.int k)], by simp [f6], ?_⟩
        by_cases h6 : (j : Int) = 6
        · simp [h6, hrl]
          exact ⟨row' ++ [rest' % 10], by simp; omega, rest' / 10, .fz (.int k), rfl, by simp [h6]⟩
        · by_cases hr0 : 0 < rest'
          · simp [h6, hr0, hrl]
            exact ⟨row' ++ [rest' % 10], by simp; omega, rest' / 10, .fz (.int k), rfl, by simp⟩
          · simp [h6, hr0, hrl]
            exact ⟨row', by omega, rest', .fz (.int k), rfl, by simp⟩
      · rintro e ⟨row', rest', v6, hl', f6, rfl⟩
        refine ⟨rfl, hq row' rest' v6 ?_ f6⟩
        simp at hl'; omega
    have fin : ∀ (row' : List Int) (rest' m : Int) (v6 : SV), row'.length ≤ row.length + 60 → fr v6 = true → ∃ (row2 : List Int) (pl2 : Int) (v3 v4 v5 v7 : SV), row2.length ≤ 60 * (p ++ [x]).length ∧ fr v3 = true ∧ fr v4 = true ∧ fr v5 = true ∧ fr v7 = true ∧ ([.fz (.lst (xs.map D.int)), .ow 1 (.lst (row'.map D.int)), .fz (.int (pl + 1)), .fz (.int x), .fz (.int rest'), .fz (.int m), v6] : List SV) = [.fz (.lst (xs.map D.int)), .ow 1 (.lst (row2.map D.int)), .fz (.int pl2), v3, v4, v5, v7] :=
      fun row' rest' m v6 h f => ⟨row', pl + 1, _, _, _, _, by simp; omega, rfl, rfl, rfl, f, rfl⟩
    by_cases hc : x < 10 ^ 18
    · refine wp_step (e' := [.fz (.lst (xs.map D.int)), .ow 1 (.lst (row.map D.int)), .fz (.int pl), .fz (.int x), .fz (.int x), v5, v6]) (by simp [f4]) ?_
      refine wp_step (e' := [.fz (.lst (xs.map D.int)), .ow 1 (.lst (row.map D.int)), .fz (.int pl), .fz (.int x), .fz (.int x), .fz (.int 60), v6]) (by simp [f5]) ?_
      rw [wp_seq, wp_ifs]
      have e1 : evt (R n) (.tst (.cmp .lt (.var 3) (.bin .pow (.cst (.int 10)) (.cst (.int 18))))) [.fz (.lst (xs.map D.int)), .ow 1 (.lst (row.map D.int)), .fz (.int pl), .fz (.int x), .fz (.int x), .fz (.int 60), v6] = .ok true [.fz (.lst (xs.map D.int)), .ow 1 (.lst (row.map D.int)), .fz (.int pl), .fz (.int x), .fz (.int x), .fz (.int 60), v6] := by
        simp; omega
      rw [e1, wp_ok, if_pos rfl]
      refine wp_step (e' := [.fz (.lst (xs.map D.int)), .ow 1 (.lst (row.map D.int)), .fz (.int pl), .fz (.int x), .fz (.int ((if x < 0 then -x else x) * 48271 % 2147483647)), .fz (.int 60), v6]) (by simp) ?_
      refine wp_step (e' := [.fz (.lst (xs.map D.int)), .ow 1 (.lst (row.map D.int)), .fz (.int pl), .fz (.int x), .fz (.int (((if x < 0 then -x else x) * 48271 % 2147483647 + 69621 * pl) % 1000003)), .fz (.int 60), v6]) (by simp) ?_
      refine wp_step (e' := [.fz (.lst (xs.map D.int)), .ow 1 (.lst (row.map D.int)), .fz (.int pl), .fz (.int x), .fz (.int (((if x < 0 then -x else x) * 48271 % 2147483647 + 69621 * pl) % 1000003)), .fz (.int 6), v6]) (by simp) ?_
      rw [exc_skip, wp_ok]
      show wp (exc _ _ (.seq _ _) _) _ _
      rw [wp_seq]
      refine inner _ 6 _ (by omega) fun row' rest' v6 h f => ?_
      show wp (exc _ _ (.seq _ _) _) _ _
      refine wp_step (e' := [.fz (.lst (xs.map D.int)), .ow 1 (.lst (row'.map D.int)), .fz (.int (pl + 1)), .fz (.int x), .fz (.int rest'), .fz (.int (6 : Nat)), v6]) (by simp) ?_
      rw [exc_skip, wp_ok]
      exact fin row' rest' _ v6 h f
    · refine wp_step (e' := [.fz (.lst (xs.map D.int)), .ow 1 (.lst (row.map D.int)), .fz (.int pl), .fz (.int x), .fz (.int x), v5, v6]) (by simp [f4]) ?_
      refine wp_step (e' := [.fz (.lst (xs.map D.int)), .ow 1 (.lst (row.map D.int)), .fz (.int pl), .fz (.int x), .fz (.int x), .fz (.int 60), v6]) (by simp [f5]) ?_
      refine wp_step_ifs (e' := [.fz (.lst (xs.map D.int)), .ow 1 (.lst (row.map D.int)), .fz (.int pl), .fz (.int x), .fz (.int x), .fz (.int 60), v6]) (by simp; omega) rfl ?_
      rw [wp_seq]
      refine inner x 60 _ (by omega) fun row' rest' v6 h f => ?_
      show wp (exc _ _ (.seq _ _) _) _ _
      refine wp_step (e' := [.fz (.lst (xs.map D.int)), .ow 1 (.lst (row'.map D.int)), .fz (.int (pl + 1)), .fz (.int x), .fz (.int rest'), .fz (.int (60 : Nat)), v6]) (by simp) ?_
      rw [exc_skip, wp_ok]
      exact fin row' rest' _ v6 h f
  · rintro e ⟨row, pl, v3, v4, v5, v6, hlen, f3, f4, f5, f6, rfl⟩
    simp
    exact hQ row
end K81
end
section
set_option Elab.async false
set_option linter.all false
set_option maxRecDepth 100000
set_option maxHeartbeats 1000000
namespace K81
open PySem L2 Mi Mi.Px Pm
def LET : Str := "abcdefghijklmnopqrstuvwxyz"
def sg (i : Int) : Str := ⟨#[(LET.cps.toList[i.toNat]?).getD 97]⟩
theorem LET_len : LET.length = 26 := by decide +kernel
theorem LET_cps : LET.cps.toList.length = 26 := by decide +kernel
theorem didx_LET {i : Int} (h0 : 0 ≤ i) (h : i < 26) : didx (.str LET) (.int i) = some (.str (sg i)) := by
  simp only [didx, LET_len]
  rw [if_pos (by simp), atI_int h0 (by rw [LET_cps]; exact_mod_cast h)]
  unfold sg
  rw [List.getElem?_eq_getElem (by rw [LET_cps]; omega)]
  rfl
@[simp] theorem len_sg {i : Int} : (sg i).length = 1 := rfl
theorem len_app {x y : Str} : (x ++ y).length = x.length + y.length := by
  show (Str.append x y).cps.size = _
  simp [Str.append, Str.length]
theorem len_mul {i : Int} {j : Int} : (strMul (sg i) j).length = j.toNat := by
  simp [strMul, sg, Str.length]
theorem didx_two {a b : D} {x : Int} : didx (.lst [a, b]) (.int (x % 2)) = some (if x % 2 = 0 then a else b) := by
  rcases Int.emod_two_eq x with h | h <;> simp [h]
def nm (at' : Int) (k : Nat) : Str :=
  (if at' / 4 % 2 = 0 then sg ((at' + 7 * k + 3) % 26) ++ strMul (sg (at' % 26)) (at' % 3) else strMul (sg (at' % 26)) (at' % 3) ++ sg ((at' + 7 * k + 3) % 26)) ++ strMul (sg ((at' + 7 * k + 3) % 26)) (if 60 < at' ∧ (k : Int) % 2 = 1 then 1 else 0)
theorem new_names_eq {n : Nat} {row : List Int} {p : Int} {j : Nat} (hp : 0 ≤ p) (hj : j ≤ 20) :
    ∃ (a p' : Int), R (n + 2) 12 [.pn 1 (stD row p), .fz (.int j)] = .ok (.ow 1 (.lst (((List.range j).map (nm a)).map D.str))) [.pn 1 (stD row p'), .fz (.int j)] ∧ 0 ≤ a ∧ a < 100 ∧ 0 ≤ p' := by
  obtain ⟨a, p', ht, ha0, ha1, hp'⟩ := take_eq (n := n) (row := row) (many := 100) (by omega) hp
  refine ⟨a, p', ?_, ha0, ha1, hp'⟩
  refine eq_def rfl rfl ?_
  show wp (exc _ _ f_law_new_names.body [.pn 1 (stD row p), .fz (.int j), .un, .un, .un, .un, .un, .un, .un]) _ _
  unfold f_law_new_names
  have hL : (Str.ofString "abcdefghijklmnopqrstuvwxyz") = LET := rfl
  have h26 : 0 ≤ a % 26 ∧ a % 26 < 26 := ⟨by omega, by omega⟩
  have h3 : 0 ≤ a % 3 ∧ a % 3 < 3 := ⟨by omega, by omega⟩
  refine wp_step (e' := [.pn 1 (stD row p), .fz (.int j), .fz (.str LET), .un, .un, .un, .un, .un, .un]) (by simp [hL]) ?_
  refine wp_step (e' := [.pn 1 (stD row p'), .fz (.int j), .fz (.str LET), .fz (.int a), .un, .un, .un, .un, .un]) (by simp [ht]) ?_
  refine wp_step (e' := [.pn 1 (stD row p'), .fz (.int j), .fz (.str LET), .fz (.int a), .fz (.str (strMul (sg (a % 26)) (a % 3))), .un, .un, .un, .un]) (by
    have c1 : (a % 3).toNat ≤ 1000 := by omega
    have c2 : a % 3 < 1000 := by omega
    have c3 : -1000 < a % 3 := by omega
    simp [didx_LET h26.1 h26.2, c1, c2, c3]) ?_
  refine wp_step (e' := [.pn 1 (stD row p'), .fz (.int j), .fz (.str LET), .fz (.int a), .fz (.str (strMul (sg (a % 26)) (a % 3))), .ow 1 (.lst []), .un, .un, .un]) (by simp) ?_
  rw [wp_seq]
  refine wp_for (xs := List.range j) (g := fun (k : Nat) => D.int (k : Int)) (lk := none) (e1 := [.pn 1 (stD row p'), .fz (.int j), .fz (.str LET), .fz (.int a), .fz (.str (strMul (sg (a % 26)) (a % 3))), .ow 1 (.lst []), .un, .un, .un]) (evi_rng (by simp) (by omega)) (fun q e => ∃ v6 v7 v8, fr v6 = true ∧ fr v7 = true ∧ fr v8 = true ∧ e = [.pn 1 (stD row p'), .fz (.int j), .fz (.str LET), .fz (.int a), .fz (.str (strMul (sg (a % 26)) (a % 3))), .ow 1 (.lst ((q.map (nm a)).map D.str)), v6, v7, v8]) ?_ ?_ ?_
  · exact ⟨_, _, _, rfl, rfl, rfl, rfl⟩
  · rintro q k q' e hx ⟨v6, v7, v8, f6, f7, f8, rfl⟩
    have hk := range_mem hx
    have hq := range_pos hx
    refine ⟨rfl, [.pn 1 (stD row p'), .fz (.int j), .fz (.str LET), .fz (.int a), .fz (.str (strMul (sg (a % 26)) (a % 3))), .ow 1 (.lst ((q.map (nm a)).map D.str)), .fz (.int k), v7, v8], by simp [f6], ?_⟩
    generalize hi : (a + 7 * (k : Int) + 3) % 26 = i
    have hi' : 0 ≤ i ∧ i < 26 := ⟨by omega, by omega⟩
    generalize hb : (if a / 4 % 2 = 0 then sg i ++ strMul (sg (a % 26)) (a % 3) else strMul (sg (a % 26)) (a % 3) ++ sg i) = b
    have hbl : b.length ≤ 4 := by
      rw [← hb]
      split <;> (rw [len_app, len_mul, len_sg]; omega)
    have hnm : nm a k = b ++ strMul (sg i) (if 60 < a ∧ (k : Int) % 2 = 1 then 1 else 0) := by unfold nm; rw [hi, hb]
    refine wp_step (e' := [.pn 1 (stD row p'), .fz (.int j), .fz (.str LET), .fz (.int a), .fz (.str (strMul (sg (a % 26)) (a % 3))), .ow 1 (.lst ((q.map (nm a)).map D.str)), .fz (.int k), .fz (.str (sg i)), v8]) (by simp [hi, didx_LET hi'.1 hi'.2, f7]) ?_
    refine wp_step (e' := [.pn 1 (stD row p'), .fz (.int j), .fz (.str LET), .fz (.int a), .fz (.str (strMul (sg (a % 26)) (a % 3))), .ow 1 (.lst ((q.map (nm a)).map D.str)), .fz (.int k), .fz (.str (sg i)), .fz (.str b)]) (by
      have hbD : (if a / 4 % 2 = 0 then D.str (sg i ++ strMul (sg (a % 26)) (a % 3)) else D.str (strMul (sg (a % 26)) (a % 3) ++ sg i)) = D.str b := by rw [← hb]; split <;> rfl
      have c1 : 1 + (a % 3).toNat ≤ 16777216 := by omega
      have c2 : (a % 3).toNat + 1 ≤ 16777216 := by omega
      simp [didx_two, len_mul, c1, c2, hbD, f8]) ?_
    have hfin : ∀ c : Int, (c = 0 ∨ c = 1) → exc (R (n + 1)) 100000 (.expr (.mut .app 5 [.bin .add (.var 8) (.cst (.str (strMul (sg i) c)))])) [.pn 1 (stD row p'), .fz (.int j), .fz (.str LET), .fz (.int a), .fz (.str (strMul (sg (a % 26)) (a % 3))), .ow 1 (.lst ((q.map (nm a)).map D.str)), .fz (.int k), .fz (.str (sg i)), .fz (.str b)] = .ok .nx [.pn 1 (stD row p'), .fz (.int j), .fz (.str LET), .fz (.int a), .fz (.str (strMul (sg (a % 26)) (a % 3))), .ow 1 (.lst ((q.map (nm a)).map D.str ++ [D.str (b ++ strMul (sg i) c)])), .fz (.int k), .fz (.str (sg i)), .fz (.str b)] := by
      intro c hc
      have c0 : b.length + c.toNat ≤ 16777216 := by omega
      have c1 : q.length < 16777216 := by omega
      simp [len_mul, c0, c1]
    have c0 : b.length ≤ 16777216 := by omega
    have c01 : b.length + 1 ≤ 16777216 := by omega
    have c1 : q.length < 16777216 := by omega
    by_cases h60 : 60 < a
    · by_cases hk1 : (k : Int) % 2 = 1
      · rw [if_pos ⟨h60, hk1⟩] at hnm
        simp [h60, hk1, len_mul, c01, c1]
        exact ⟨_, rfl, _, rfl, _, rfl, by rw [hnm], rfl, rfl, rfl⟩
      · rw [if_neg (fun h => hk1 h.2)] at hnm
        simp [h60, hk1, len_mul, c0, c1]
        exact ⟨_, rfl, _, rfl, _, rfl, by rw [hnm], rfl, rfl, rfl⟩
    · rw [if_neg (fun h => h60 h.1)] at hnm
      simp [h60, len_mul, c0, c1]
      exact ⟨_, rfl, _, rfl, _, rfl, by rw [hnm], rfl, rfl, rfl⟩
  · rintro e ⟨v6, v7, v8, f6, f7, f8, rfl⟩
    simp
/-- good columns -/
structure Gc (cols : List Str) : Prop where
  nd : cols.Nodup
  ok : ∀ c ∈ cols, okS c = true
  len : cols.length ≤ 12
  w1 : ("nowhere" : Str) ∉ cols
  w2 : ("nothere" : Str) ∉ cols
theorem names_fin : ∀ a : Fin 100, ((List.range 12).map (nm a)).Nodup ∧ ∀ x ∈ (List.range 12).map (nm a), okS x = true ∧ x ≠ ("nowhere" : Str) ∧ x ≠ ("nothere" : Str) := by decide +kernel
theorem names_good {a : Int} {j : Nat} (h0 : 0 ≤ a) (h : a < 100) (hj : j ≤ 12) : Gc ((List.range j).map (nm a)) := by
  obtain ⟨h1, h2⟩ := names_fin ⟨a.toNat, by omega⟩
  have e : ((⟨a.toNat, by omega⟩ : Fin 100) : Int) = a := by simp; omega
  rw [e] at h1 h2
  have hs : List.range j = (List.range 12).take j := by rw [List.take_range]; congr 1; omega
  have hsub : ((List.range j).map (nm a)).Sublist ((List.range 12).map (nm a)) := by
    rw [hs]; exact (List.take_sublist j (List.range 12)).map _
  exact ⟨hsub.nodup h1, fun c hc => (h2 c (hsub.subset hc)).1, by simp; omega, fun hc => (h2 _ (hsub.subset hc)).2.1 rfl, fun hc => (h2 _ (hsub.subset hc)).2.2 rfl⟩
theorem drawn_columns_eq {n : Nat} {row : List Int} {p : Int} (hp : 0 ≤ p) : ∃ (cols : List Str) (p' : Int), R (n + 3) 13 [.pn 1 (stD row p)] = .ok (.ow 1 (.lst (cols.map D.str))) [.pn 1 (stD row p')] ∧ Gc cols ∧ 0 ≤ p' := by
  obtain ⟨a, p1, h1, ha0, ha1, hp1⟩ := take_eq (n := n + 1) (row := row) (many := 8) (by omega) hp
  by_cases h7 : a = 7
  · obtain ⟨b, p2, h2, hb0, hb1, hp2⟩ := take_eq (n := n + 1) (row := row) (many := 6) (by omega) hp1
    obtain ⟨j, hj⟩ : ∃ j : Nat, 7 + b = j := ⟨(7 + b).toNat, by omega⟩
    obtain ⟨c, p3, h3, hc0, hc1, hp3⟩ := new_names_eq (n := n) (row := row) (j := j) hp2 (by omega)
    refine ⟨(List.range j).map (nm c), p3, ?_, names_good hc0 hc1 (by omega), hp3⟩
    subst h7
    refine eq_def rfl rfl ?_
    show wp (exc _ _ f_law_drawn_columns.body [.pn 1 (stD row p), .un]) _ _
    unfold f_law_drawn_columns
    simp [h1, h2, hj, h3]
  · obtain ⟨j, rfl⟩ : ∃ j : Nat, a = j := ⟨a.toNat, by omega⟩
    obtain ⟨c, p3, h3, hc0, hc1, hp3⟩ := new_names_eq (n := n) (row := row) (j := j) hp1 (by omega)
    refine ⟨(List.range j).map (nm c), p3, ?_, names_good hc0 hc1 (by omega), hp3⟩
    refine eq_def rfl rfl ?_
    show wp (exc _ _ f_law_drawn_columns.body [.pn 1 (stD row p), .un]) _ _
    unfold f_law_drawn_columns
    simp [h1, h7, h3]
theorem didx_mem {xs : List Str} {i : Int} (h0 : 0 ≤ i) (h : i < xs.length) : ∃ x ∈ xs, didx (.lst (xs.map D.str)) (.int i) = some (.str x) := by
  refine ⟨xs[i.toNat]'(by omega), List.getElem_mem _, ?_⟩
  show atI (xs.map D.str) i = _
  rw [atI_int h0 (by simpa using h), List.getElem?_map, List.getElem?_eq_getElem (by omega)]
  rfl
theorem pick_eq {n : Nat} {row : List Int} {p : Int} {cols : List Str} {most : Nat} (hp : 0 ≤ p) (hm : most ≤ 10) : ∃ (l : List Str) (p' : Int), R (n + 2) 14 [.pn 1 (stD row p), .fz (.lst (cols.map D.str)), .fz (.int most)] = .ok (.fz (.tup (l.map D.str))) [.pn 1 (stD row p'), .fz (.lst (cols.map D.str)), .fz (.int most)] ∧ (∀ c ∈ l, c ∈ cols) ∧ l.length ≤ most ∧ 0 ≤ p' := by
  obtain ⟨a, p1, h1, ha0, ha1, hp1⟩ := take_eq (n := n) (row := row) (many := most + 1) (by omega) hp
  obtain ⟨j, rfl⟩ : ∃ j : Nat, a = j := ⟨a.toNat, by omega⟩
  suffices key : ∀ Q : RV → List SV → Prop, (∀ (l : List Str) (p' : Int), (∀ c ∈ l, c ∈ cols) → l.length ≤ most → 0 ≤ p' → Q (.fz (.tup (l.map D.str))) [.pn 1 (stD row p'), .fz (.lst (cols.map D.str)), .fz (.int most)]) → ∃ r ts, R (n + 2) 14 [.pn 1 (stD row p), .fz (.lst (cols.map D.str)), .fz (.int most)] = .ok r ts ∧ Q r ts by
    obtain ⟨r, ts, h, l, p', rfl, rfl, hz⟩ := key (fun r ts => ∃ (l : List Str) (p' : Int), r = .fz (.tup (l.map D.str)) ∧ ts = [.pn 1 (stD row p'), .fz (.lst (cols.map D.str)), .fz (.int most)] ∧ (∀ c ∈ l, c ∈ cols) ∧ l.length ≤ most ∧ 0 ≤ p') (fun l p' a b c => ⟨l, p', rfl, rfl, a, b, c⟩)
    exact ⟨l, p', h, hz⟩
  intro Q hQ
  refine gives_def rfl rfl ?_
  show wp (exc _ _ f_law_pick.body [.pn 1 (stD row p), .fz (.lst (cols.map D.str)), .fz (.int most), .un, .un]) _ _
  unfold f_law_pick
  refine wp_step (e' := [.pn 1 (stD row p), .fz (.lst (cols.map D.str)), .fz (.int most), .ow 1 (.lst []), .un]) (by simp) ?_
  rw [wp_seq]
  have hs : evi (R (n + 1)) (.rng1 (.call 11 [(.var 0), (.bin .add (.var 2) (.cst (.int 1)))])) [.pn 1 (stD row p), .fz (.lst (cols.map D.str)), .fz (.int most), .ow 1 (.lst []), .un] = .ok ((List.range j).map fun (k : Nat) => D.int (k : Int), none) [.pn 1 (stD row p1), .fz (.lst (cols.map D.str)), .fz (.int most), .ow 1 (.lst []), .un] := by
    rw [evi_rng1]
    have : ev (R (n + 1)) (.call 11 [(.var 0), (.bin .add (.var 2) (.cst (.int 1)))]) [.pn 1 (stD row p), .fz (.lst (cols.map D.str)), .fz (.int most), .ow 1 (.lst []), .un] = .ok (.fz (.int j)) [.pn 1 (stD row p1), .fz (.lst (cols.map D.str)), .fz (.int most), .ow 1 (.lst []), .un] := by simp [h1]
    rw [this, Rs.bind_ok]
    simp only [sm62 (j := j) (by omega), if_true, rng_map]
  refine wp_for hs (fun q e => ∃ (l : List Str) (p' : Int) (v4 : SV), (∀ c ∈ l, c ∈ cols) ∧ l.length ≤ q.length ∧ 0 ≤ p' ∧ fr v4 = true ∧ e = [.pn 1 (stD row p'), .fz (.lst (cols.map D.str)), .fz (.int most), .ow 1 (.lst (l.map D.str)), v4]) ?_ ?_ ?_
  · exact ⟨[], p1, _, by simp, by simp, hp1, rfl, rfl⟩
  · rintro q k q' e hx ⟨l, p', v4, hl1, hl2, hp', f4, rfl⟩
    have hk := range_mem hx
    have hq := range_pos hx
    refine ⟨rfl, [.pn 1 (stD row p'), .fz (.lst (cols.map D.str)), .fz (.int most), .ow 1 (.lst (l.map D.str)), .fz (.int k)], by simp [f4], ?_⟩
    by_cases hc : 0 < cols.length
    · obtain ⟨i, p2, h2, hi0, hi1, hp2⟩ := take_eq (n := n) (row := row) (many := cols.length) (by omega) hp'
      obtain ⟨x, hxc, hxd⟩ := didx_mem hi0 hi1
      have c1 : l.length < 16777216 := by omega
      simp [hc, h2, hxd, c1]
      exact ⟨l ++ [x], by simp; exact fun c hc => by rcases hc with hc | rfl; { exact hl1 c hc }; { exact hxc }, by simp; omega, p2, hp2, .fz (.int k), rfl, by simp⟩
    · simp [hc]
      exact ⟨l, hl1, by omega, p', hp', .fz (.int k), rfl, by simp⟩
  · rintro e ⟨l, p', v4, hl1, hl2, hp', f4, rfl⟩
    refine ⟨rfl, ?_⟩
    simp
    refine hQ l p' hl1 ?_ hp'
    simp at hl2; omega
end K81
end
section
set_option Elab.async false
set_option linter.all false
set_option maxRecDepth 100000
set_option maxHeartbeats 1000000
namespace K81
open PySem L2 Mi Mi.Px Pm
theorem lacks_eq {n : Nat} {s1 s2 : SV} {some' known : List Str} (h1 : Sq s1 (sts some')) (h2 : Sq s2 (sts known)) (hl : some'.length ≤ lim) : R (n + 1) 16 [s1, s2] = .ok (.ow 1 (.lst ((lacks some' known).map D.str))) [s1, s2] := by
  refine eq_def rfl rfl ?_
  show wp (exc _ _ f_law_lacks.body [s1, s2, .un]) _ _
  unfold f_law_lacks
  have h4 : ev (R n) (.lcp [("one", 2)] (.nm 2) (.seq (.var 0)) (some (.tst (.cmp .notin (.var 2) (.var 1)))) (.var 2)) [s1, s2, .un] = .ok (.ow 1 (.lst (some'.filterMap fun x => if (decide (x ∉ known)) = true then some (D.str x) else none))) [s1, s2, .un] := by
    refine ev_lcp0 (xs := some') (g := D.str) _ (e1 := [s1, s2, .un]) (evi_sq h1 rfl) rfl hl (fun i s e => ?_) (fun x hx => ?_)
    · cases h1 <;> simp [lkOf] at e
      obtain ⟨rfl, rfl⟩ := e
      exact ⟨by decide, rfl⟩
    · rw [lock_sq h1 rfl]
      by_cases hx : x ∈ known <;> cases h2 <;> simp [hx]
  rw [filterMap_if, show (some'.filter fun x => decide (x ∉ known)) = lacks some' known from rfl] at h4
  have a0 := argOut_sq (env := [s1, s2, .un]) (i := 0) h1 rfl
  have a1 := argOut_sq (env := [s1, s2, .un]) (i := 1) h2 rfl
  simp [h4, a0, a1]
structure Sm20 (rules : List (Rule Str)) : Prop where
  rl : ∀ r ∈ rules, r.1.length ≤ 20 ∧ r.2.length ≤ 20
  rn : rules.length ≤ 20
theorem itL_succ (rules : List (Rule Str)) : ∀ (n : Nat) (k : List Str), itL rules (n + 1) k = roundL rules (itL rules n k)
  | 0, _ => rfl
  | n + 1, k => itL_succ rules n (roundL rules k)
theorem foldL_len {rules : List (Rule Str)} : ∀ (p : List (Rule Str)) (k : List Str), (∀ r ∈ p, r.2.length ≤ 20) → (p.foldl stepL k).length ≤ k.length + p.length * 20
  | [], k, _ => by simp
  | r :: p, k, h => by
    have h1 := foldL_len (rules := rules) p (stepL k r) fun r hr => h r (List.mem_cons_of_mem _ hr)
    have h2 : (stepL k r).length ≤ k.length + 20 := by
      unfold stepL
      split
      · have := h r (List.mem_cons_self ..)
        have h3 : (lacks r.2 k).length ≤ r.2.length := List.length_filter_le _ _
        simp; omega
      · omega
    simp only [List.foldl_cons, List.length_cons]
    omega
theorem itL_len {rules : List (Rule Str)} (S : Sm20 rules) (k : List Str) : ∀ n : Nat, (itL rules n k).length ≤ k.length + n * 400
  | 0 => by simp [itL]
  | n + 1 => by
    rw [itL_succ]
    have h1 := itL_len S k n
    have h2 := foldL_len (rules := rules) rules (itL rules n k) fun r hr => (S.rl r hr).2
    have h3 := S.rn
    unfold roundL
    omega
theorem stepL_cols {cols : List Str} {rules : List (Rule Str)} (hw : Within cols rules) : ∀ (p : List (Rule Str)) (k : List Str), (∀ r ∈ p, r ∈ rules) → (∀ c ∈ k, c ∈ cols) → ∀ c ∈ p.foldl stepL k, c ∈ cols
  | [], k, _, h => h
  | r :: p, k, hp, h => by
    refine stepL_cols hw p (stepL k r) (fun r hr => hp r (List.mem_cons_of_mem _ hr)) fun c hc => ?_
    unfold stepL at hc
    split at hc
    · rcases List.mem_append.1 hc with hc | hc
      · exact h c hc
      · exact (hw r (hp r (List.mem_cons_self ..))).2 c (mem_lacks.1 hc).1
    · exact h c hc
theorem deq_snil {xs : List Str} (h : ∀ x ∈ xs, okS x = true) : deq (.lst (xs.map D.str)) (.lst []) = some (decide (xs = [])) := deq_strs (ys := []) h (by simp)
theorem reach_def {n : Nat} {cols left : List Str} {rules : List (Rule Str)} (hok : ∀ c ∈ cols, okS c = true) (hcl : cols.length ≤ 12) (hw : Within cols rules) (S : Sm20 rules) :
    R (n + 2) 17 [.fz (.lst (cols.map D.str)), .fz (.lst (rules.map rl)), .fz (.tup (left.map D.str))] = .ok (.ow 1 (.lst ((reach cols rules left).map D.str))) [.fz (.lst (cols.map D.str)), .fz (.lst (rules.map rl)), .fz (.tup (left.map D.str))] := by
  generalize ha : SV.fz (.lst (cols.map D.str)) = a
  generalize hb : SV.fz (.lst (rules.map rl)) = b
  generalize hc : SV.fz (.tup (left.map D.str)) = c
  have sa : Sq a (sts cols) := by rw [← ha]; exact .l
  have sb : Sq b (rules.map rl) := by rw [← hb]; exact .l
  have sc' : Sq c (sts left) := by rw [← hc]; exact .t
  refine eq_def rfl rfl ?_
  show wp (exc _ _ f_law_reach.body [a, b, c, .un, .un, .un, .un]) _ _
  unfold f_law_reach
  have h0 : ev (R (n + 1)) (.lcp [("one", 6)] (.nm 6) (.seq (.var 0)) (some (.tst (.cmp .isin (.var 6) (.var 2)))) (.var 6)) [a, b, c, .un, .un, .un, .un] = .ok (.ow 1 (.lst (cols.filterMap fun x => if (decide (x ∈ left)) = true then some (D.str x) else none))) [a, b, c, .un, .un, .un, .un] := by
    refine ev_lcp0 (xs := cols) (g := D.str) _ (e1 := [a, b, c, .un, .un, .un, .un]) (lk := none) (by rw [← ha]; simp) (by simp) (by simp; omega) (fun i s e => by cases e) (fun x hx => ?_)
    by_cases hx : x ∈ left <;> rw [← hc] <;> simp [hx]
  rw [filterMap_if] at h0
  refine wp_step (e' := [a, b, c, .ow 1 (.lst ((cols.filter fun c => decide (c ∈ left)).map D.str)), .un, .un, .un]) (by simp [h0]) ?_
  generalize hk0 : (cols.filter fun c => decide (c ∈ left)) = k0
  have hk0l : k0.length ≤ 12 := by rw [← hk0]; have := List.length_filter_le (fun c => decide (c ∈ left)) cols; omega
  have hk0c : ∀ c ∈ k0, c ∈ cols := by rw [← hk0]; exact fun c hc => (List.mem_filter.1 hc).1
  have itc : ∀ n, ∀ c ∈ itL rules n k0, c ∈ cols := by
    intro n
    induction n with
    | zero => exact hk0c
    | succ n ih => rw [itL_succ]; exact stepL_cols hw rules _ (fun _ h => h) ih
  rw [wp_seq]
  have hs : evi (R (n + 1)) (.rng1 (.bin .add (.blt .len [(.var 0)]) (.cst (.int 1)))) [a, b, c, .ow 1 (.lst (k0.map D.str)), .un, .un, .un] = .ok ((List.range (cols.length + 1)).map fun (k : Nat) => D.int (k : Int), none) [a, b, c, .ow 1 (.lst (k0.map D.str)), .un, .un, .un] := evi_rng (by rw [← ha]; simp) (by omega)
  refine wp_for hs (fun q e => ∃ v4 v5, fr v4 = true ∧ fr v5 = true ∧ e = [a, b, c, .ow 1 (.lst ((itL rules q.length k0).map D.str)), v4, v5, .un]) ?_ ?_ ?_
  · exact ⟨_, _, rfl, rfl, rfl⟩
  · rintro q j q' e hx ⟨v4, v5, f4, f5, rfl⟩
    have hj := range_mem hx
    have hq := range_pos hx
    refine ⟨rfl, [a, b, c, .ow 1 (.lst ((itL rules q.length k0).map D.str)), .fz (.int j), v5, .un], by simp [f4], ?_⟩
    rw [wp_seq]
    have hit := itL_len S k0 q.length
    have hitc := itc q.length
    generalize hkk : itL rules q.length k0 = kk at hit hitc
    refine wp_for (xs := rules) (g := rl) (lk := none) (e1 := [a, b, c, .ow 1 (.lst (kk.map D.str)), .fz (.int j), v5, .un]) (by rw [← hb]; simp) (fun p e => ∃ v5, fr v5 = true ∧ e = [a, b, c, .ow 1 (.lst ((p.foldl stepL kk).map D.str)), .fz (.int j), v5, .un]) ?_ ?_ ?_
    · exact ⟨_, f5, rfl⟩
    · rintro p r p' e hy ⟨v5, f5, rfl⟩
      have hrm : r ∈ rules := by rw [hy]; simp
      have hpm : ∀ r ∈ p, r ∈ rules := fun r hr => by rw [hy]; simp [hr]
      have hrl := S.rl r hrm
      have hkc := stepL_cols hw p kk hpm hitc
      have hkl := foldL_len (rules := rules) p kk fun r hr => (S.rl r (hpm r hr)).2
      have hpl : p.length ≤ 20 := by have := S.rn; have h2 : rules.length = p.length + (p'.length + 1) := by { rw [hy]; simp }; omega
      have hsn : (p ++ [r]).foldl stepL kk = stepL (p.foldl stepL kk) r := by rw [List.foldl_append]; rfl
      generalize hk1 : p.foldl stepL kk = k1 at hkc hkl hsn
      refine ⟨rfl, [a, b, c, .ow 1 (.lst (k1.map D.str)), .fz (.int j), .fz (rl r), .un], by simp [f5], ?_⟩
      have l1 := lacks_eq (n := n) (Sq_s1 (r := r.1)) (.p : Sq (.pn 1 (.lst (k1.map D.str))) (sts k1)) (by simp; omega)
      have l2 := lacks_eq (n := n) (Sq_s1 (r := r.2)) (.p : Sq (.pn 1 (.lst (k1.map D.str))) (sts k1)) (by simp; omega)
      have d1 := deq_snil (xs := lacks r.1 k1) fun x hx => hok x ((hw r hrm).1 x (mem_lacks.1 hx).1)
      have h3 : (lacks r.2 k1).length ≤ r.2.length := List.length_filter_le _ _
      have hlen : k1.length + (lacks r.2 k1).length ≤ 16777216 := by omega
      by_cases hn : lacks r.1 k1 = []
      · have e : stepL k1 r = k1 ++ lacks r.2 k1 := by unfold stepL; rw [if_pos hn]
        rw [hn] at d1 l1
        simp at d1
        simp [l1, l2, d1, hlen, hsn, e]
      · have e : stepL k1 r = k1 := by unfold stepL; rw [if_neg hn]
        simp [l1, d1, hn, hsn, e]
    · rintro e ⟨v5, f5, rfl⟩
      refine ⟨rfl, ?_⟩
      simp
      refine ⟨_, rfl, _, f5, ?_, rfl, rfl⟩
      rw [itL_succ, hkk]; rfl
  · rintro e ⟨v4, v5, f4, f5, rfl⟩
    refine ⟨rfl, ?_⟩
    simp only [List.length_range, unlock_none]
    have h9 : ev (R (n + 1)) (.lcp [("one", 6)] (.nm 6) (.seq (.var 0)) (some (.tst (.cmp .isin (.var 6) (.var 3)))) (.var 6)) [a, b, c, .ow 1 (.lst ((itL rules (cols.length + 1) k0).map D.str)), v4, v5, .un] = .ok (.ow 1 (.lst (cols.filterMap fun x => if (decide (x ∈ itL rules (cols.length + 1) k0)) = true then some (D.str x) else none))) [a, b, c, .ow 1 (.lst ((itL rules (cols.length + 1) k0).map D.str)), v4, v5, .un] := by
      refine ev_lcp0 (xs := cols) (g := D.str) _ (e1 := [a, b, c, .ow 1 (.lst ((itL rules (cols.length + 1) k0).map D.str)), v4, v5, .un]) (lk := none) (by rw [← ha]; simp) (by simp) (by simp; omega) (fun i s e => by cases e) (fun x hx => ?_)
      by_cases hx : x ∈ itL rules (cols.length + 1) k0 <;> simp [hx]
    rw [filterMap_if] at h9
    have e : (cols.filter fun x => decide (x ∈ itL rules (cols.length + 1) k0)) = reach cols rules left := by unfold reach; rw [hk0]
    rw [e] at h9
    have a0 : ∀ x y z w, argOut [a, b, c, x, y, z, w] 0 a = some a := fun _ _ _ _ => argOut_sq sa rfl
    have a1 : ∀ x y z w, argOut [a, b, c, x, y, z, w] 1 b = some b := fun _ _ _ _ => argOut_sq sb rfl
    have a2 : ∀ x y z w, argOut [a, b, c, x, y, z, w] 2 c = some c := fun _ _ _ _ => argOut_sq sc' rfl
    simp [h9, a0, a1, a2]
end K81
end
section
set_option Elab.async false
set_option linter.all false
set_option maxRecDepth 100000
set_option maxHeartbeats 1000000
namespace K81
open PySem L2 Mi Mi.Px Pm
theorem cutD_map {α β : Type} (f : α → β) (xs : List α) (lo hi : Option Int) : cutD (xs.map f) lo hi = (cutD xs lo hi).map f := by
  simp [cutD, List.map_take, List.map_drop]
theorem cutD_mem {α : Type} {xs : List α} {lo hi : Option Int} {x : α} (h : x ∈ cutD xs lo hi) : x ∈ xs := List.mem_of_mem_drop (List.mem_of_mem_take h)
theorem cutD_len {α : Type} {xs : List α} {lo hi : Option Int} : (cutD xs lo hi).length ≤ xs.length := by
  unfold cutD; rw [List.length_take, List.length_drop]; omega
/-- within the columns, and short -/
structure L20 (cols left : List Str) : Prop where
  sub : ∀ c ∈ left, c ∈ cols
  len : left.length ≤ 20
theorem L20.lf {cols left : List Str} (h : L20 cols left) : Lf cols left := ⟨h.sub, by have := h.len; omega⟩
abbrev clD (cols : List Str) : D := .lst (cols.map D.str)
abbrev rsD (rules : List (Rule Str)) : D := .lst (rules.map rl)
def Rk (cols : List Str) (r : Rule Str) : Prop := (∀ c ∈ r.1, c ∈ cols) ∧ (∀ c ∈ r.2, c ∈ cols) ∧ r.1.length ≤ 3 ∧ r.2.length ≤ 3
def RuI (row : List Int) (cols : List Str) (j : Nat) (ch : Bool) (q : List Nat) (e : Mi.Env) : Prop := ∃ (rules : List (Rule Str)) (p' : Int) (v5 v6 v7 : SV), (∀ r ∈ rules, Rk cols r) ∧ rules.length ≤ q.length ∧ 0 ≤ p' ∧ fr v5 = true ∧ fr v6 = true ∧ fr v7 = true ∧ e = [.pn 1 (stD row p'), .fz (clD cols), .fz (.int j), .fz (.bl ch), .ow 1 (rsD rules), v5, v6, v7]
theorem drawn_rules_eq {n : Nat} {row : List Int} {p : Int} {cols : List Str} (hp : 0 ≤ p) (hcl : cols.length ≤ 12) : ∃ (rules : List (Rule Str)) (p' : Int), R (n + 3) 15 [.pn 1 (stD row p), .fz (clD cols)] = .ok (.ow 1 (rsD rules)) [.pn 1 (stD row p'), .fz (clD cols)] ∧ (∀ r ∈ rules, Rk cols r) ∧ rules.length ≤ 12 ∧ 0 ≤ p' := by
  obtain ⟨a, p1, h1, ha0, ha1, hp1⟩ := take_eq (n := n + 1) (row := row) (many := 7) (by omega) hp
  obtain ⟨b, p2, h2, hb0, hb1, hp2⟩ := take_eq (n := n + 1) (row := row) (many := 2) (by omega) hp1
  obtain ⟨j, hj⟩ : ∃ j : Nat, (if (6 : Int) < cols.length then a + 6 else a) = j := ⟨(if (6 : Int) < cols.length then a + 6 else a).toNat, by split <;> omega⟩
  have hj12 : j ≤ 12 := by split at hj <;> omega
  suffices key : ∀ Q : RV → List SV → Prop, (∀ (rules : List (Rule Str)) (p' : Int), (∀ r ∈ rules, Rk cols r) → rules.length ≤ 12 → 0 ≤ p' → Q (.ow 1 (rsD rules)) [.pn 1 (stD row p'), .fz (clD cols)]) → ∃ r ts, R (n + 3) 15 [.pn 1 (stD row p), .fz (clD cols)] = .ok r ts ∧ Q r ts by
    obtain ⟨r, ts, h, l, p', rfl, rfl, hz⟩ := key (fun r ts => ∃ (rules : List (Rule Str)) (p' : Int), r = .ow 1 (rsD rules) ∧ ts = [.pn 1 (stD row p'), .fz (clD cols)] ∧ (∀ r ∈ rules, Rk cols r) ∧ rules.length ≤ 12 ∧ 0 ≤ p') (fun l p' a b c => ⟨l, p', rfl, rfl, a, b, c⟩)
    exact ⟨l, p', h, hz⟩
  intro Q hQ
  refine gives_def rfl rfl ?_
  show wp (exc _ _ f_law_drawn_rules.body [.pn 1 (stD row p), .fz (clD cols), .un, .un, .un, .un, .un, .un]) _ _
  unfold f_law_drawn_rules
  refine wp_step (e' := [.pn 1 (stD row p1), .fz (clD cols), .fz (.int a), .un, .un, .un, .un, .un]) (by simp [h1]) ?_
  rw [wp_seq, wp_ifs]
  have go : wp (exc (R (n + 2)) 100000 (.seq (.set 3 (.and (.cmp .eq (.call 11 [(.var 0), (.cst (.int 2))]) (.cst (.int 1))) (.one (.cmp .gt (.blt .len [(.var 1)]) (.cst (.int 1))))))
  (.seq (.set 4 (.lst 0 []))
  (.seq (.for_ (.nm 5) (.rng1 (.var 2)) (.seq (.ifs (.tst (.var 3)) (.seq (.set 6 (.bin .mod (.blt .int [(.bin .sub (.bin .sub (.blt .len [(.var 1)]) (.cst (.int 2))) (.var 5))]) (.bin .sub (.blt .len [(.var 1)]) (.cst (.int 1)))))
      (.seq (.expr (.mut .app 4 [(.tup 0 [(.tup 0 [(.idx (.var 1) (.var 6))]), (.tup 0 [(.idx (.var 1) (.bin .add (.var 6) (.cst (.int 1))))])])]))
      .skip)) (.seq (.set 7 (.call 14 [(.var 0), (.var 1), (.cst (.int 2))]))
      (.seq (.expr (.mut .app 4 [(.tup 0 [(.var 7), (.call 14 [(.var 0), (.var 1), (.cst (.int 3))])])]))
      .skip)))
    .skip))
  (.seq (.ret (.var 4))
  .skip)))) [.pn 1 (stD row p1), .fz (clD cols), .fz (.int j), .un, .un, .un, .un, .un]) (fun fl env => match fl with
      | .nx => ∃ ts, argOuts env 0 [.pn 1 (stD row p), .fz (clD cols)] = some ts ∧ Q (.fz .non) ts
      | .ret r => ∃ ts, argOuts env 0 [.pn 1 (stD row p), .fz (clD cols)] = some ts ∧ Q r ts
      | _ => False) (fun _ => False) := by
    obtain ⟨ch, hch, hch2⟩ : ∃ ch : Bool, exc (R (n + 2)) 100000 (.set 3 (.and (.cmp .eq (.call 11 [(.var 0), (.cst (.int 2))]) (.cst (.int 1))) (.one (.cmp .gt (.blt .len [(.var 1)]) (.cst (.int 1)))))) [.pn 1 (stD row p1), .fz (clD cols), .fz (.int j), .un, .un, .un, .un, .un] = .ok .nx [.pn 1 (stD row p2), .fz (clD cols), .fz (.int j), .fz (.bl ch), .un, .un, .un, .un] ∧ (ch = true → 1 < cols.length) := by
      by_cases hb : b = 1
      · exact ⟨decide ((1 : Int) < cols.length), by simp [h2, hb], fun h => (by have := of_decide_eq_true h; omega)⟩
      · exact ⟨false, by simp [h2, hb], by simp⟩
    refine wp_step (e' := [.pn 1 (stD row p2), .fz (clD cols), .fz (.int j), .fz (.bl ch), .un, .un, .un, .un]) hch ?_
    refine wp_step (e' := [.pn 1 (stD row p2), .fz (clD cols), .fz (.int j), .fz (.bl ch), .ow 1 (rsD []), .un, .un, .un]) (by simp [rsD]) ?_
    rw [wp_seq]
    refine wp_for (xs := List.range j) (g := fun (k : Nat) => D.int (k : Int)) (lk := none) (e1 := [.pn 1 (stD row p2), .fz (clD cols), .fz (.int j), .fz (.bl ch), .ow 1 (rsD []), .un, .un, .un]) (evi_rng (by simp) (by omega)) (RuI row cols j ch) ?_ ?_ ?_
    · exact ⟨[], p2, _, _, _, by simp, by simp, hp2, rfl, rfl, rfl, rfl⟩
    · rintro q k q' e hx ⟨rules, p', v5, v6, v7, hr, hrl, hp', f5, f6, f7, rfl⟩
      have hk := range_mem hx
      have hq := range_pos hx
      refine ⟨rfl, [.pn 1 (stD row p'), .fz (clD cols), .fz (.int j), .fz (.bl ch), .ow 1 (rsD rules), .fz (.int k), v6, v7], by simp [f5], ?_⟩
      have c1 : rules.length < 16777216 := by omega
      have ext : ∀ r : Rule Str, Rk cols r → ∀ r' ∈ rules ++ [r], Rk cols r' := by
        intro r h r' hr'
        rcases List.mem_append.1 hr' with hr' | hr'
        · exact hr r' hr'
        · rw [List.mem_singleton.1 hr']; exact h
      cases ch with
      | true =>
        have hlen := hch2 rfl
        generalize hat : ((cols.length : Int) - 2 - k) % ((cols.length : Int) - 1) = at'
        have hat0 : 0 ≤ at' := by rw [← hat]; exact Int.emod_nonneg _ (by omega)
        have hat1 : at' < (cols.length : Int) - 1 := by rw [← hat]; exact Int.emod_lt_of_pos _ (by omega)
        obtain ⟨x, hxc, hxd⟩ := didx_mem (xs := cols) (i := at') hat0 (by omega)
        obtain ⟨y, hyc, hyd⟩ := didx_mem (xs := cols) (i := at' + 1) (by omega) (by omega)
        have hm : (1 : Int) < cols.length := by omega
        simp [hat, hm, hxd, hyd, c1, f6]
        exact ⟨rules ++ [([x], [y])], p', .fz (.int k), .fz (.int at'), v7, ext ([x], [y]) ⟨by simp [hxc], by simp [hyc], by simp, by simp⟩, by simp; omega, hp', rfl, rfl, f7, by simp [rl]⟩
      | false =>
        obtain ⟨l1, p3, g1, gs1, gl1, hp3⟩ := pick_eq (n := n) (row := row) (cols := cols) (most := 2) hp' (by omega)
        obtain ⟨l2, p4, g2, gs2, gl2, hp4⟩ := pick_eq (n := n) (row := row) (cols := cols) (most := 3) hp3 (by omega)
        simp at g1 g2
        simp [g1, g2, c1, f7]
        exact ⟨rules ++ [(l1, l2)], p4, .fz (.int k), v6, .fz (.tup (l1.map D.str)), ext (l1, l2) ⟨gs1, gs2, Nat.le_trans gl1 (by omega), gl2⟩, by simp; omega, hp4, rfl, f6, rfl, by simp [rl]⟩
    · rintro e ⟨rules, p', v5, v6, v7, hr, hrl, hp', f5, f6, f7, rfl⟩
      refine ⟨rfl, ?_⟩
      simp
      exact hQ rules p' hr (by simp at hrl; omega) hp'
  have ev6 : evt (R (n + 2)) (.tst (.cmp .gt (.blt .len [(.var 1)]) (.cst (.int 6)))) [.pn 1 (stD row p1), .fz (clD cols), .fz (.int a), .un, .un, .un, .un, .un] = .ok (decide ((6 : Int) < cols.length)) [.pn 1 (stD row p1), .fz (clD cols), .fz (.int a), .un, .un, .un, .un, .un] := by simp
  rw [ev6, wp_ok]
  by_cases h6 : (6 : Int) < cols.length
  · rw [if_pos h6] at hj
    rw [if_pos (decide_eq_true h6)]
    refine wp_step (e' := [.pn 1 (stD row p1), .fz (clD cols), .fz (.int j), .un, .un, .un, .un, .un]) (by simp [hj]) ?_
    rw [exc_skip, wp_ok]
    exact go
  · rw [if_neg h6] at hj
    rw [if_neg (by simpa using h6), exc_skip, wp_ok]
    subst hj
    exact go
end K81
end
section
set_option Elab.async false
set_option linter.all false
set_option maxRecDepth 100000
set_option maxHeartbeats 1000000
namespace K81
open PySem L2 Mi Mi.Px Pm
theorem din_ints {i : Int} {us : List Int} : din (.int i) (.lst (us.map D.int)) = some (decide (i ∈ us)) := by
  unfold din
  have hf : (us.map D.int).all D.flat = true := by simp [D.flat]
  simp only [hf, D.flat, Bool.and_self, if_true]
  congr 1
  unfold inD
  rw [Bool.eq_iff_iff]
  simp [D.toV, eqV, List.any_eq_true]
theorem didx_rules {rules : List (Rule Str)} {i : Int} {r : Rule Str} (h0 : 0 ≤ i) (h : i < rules.length) (hr : rules[i.toNat]? = some r) : didx (.lst (rules.map rl)) (.int i) = some (rl r) := by
  show atI (rules.map rl) i = _
  rw [atI_int h0 (by simpa using h), List.getElem?_map, hr]
  rfl
theorem walkD_snoc {rules : List (Rule Str)} {k k' : List Str} {p : List Int} {i : Int} (h : walkD rules k p = some k') : walkD rules k (p ++ [i]) = walkD rules k' [i] := by rw [walkD_append, h]; rfl
theorem derives_none {rules : List (Rule Str)} {rule : Rule Str} {p q : List Int} {i : Int} {k' : List Str} (h : walkD rules rule.1 p = some k') (h' : walkD rules k' [i] = none) : derives rules rule (p ++ i :: q) = false := by
  unfold derives
  have : walkD rules rule.1 (p ++ i :: q) = none := by
    rw [show p ++ i :: q = (p ++ [i]) ++ q by simp, walkD_append, walkD_snoc h, h']; rfl
  rw [this]
def DerI (rules : List (Rule Str)) (rule : Rule Str) (sp : SV) (p : List Int) (e : Mi.Env) : Prop := ∃ k v4, walkD rules rule.1 p = some k ∧ k.length ≤ 20 + p.length * 20 ∧ fr v4 = true ∧ e = [.fz (.lst (rules.map rl)), .fz (rl rule), sp, .ow 1 (.lst (k.map D.str)), v4]
section
variable {cols : List Str} {rules : List (Rule Str)} {rule : Rule Str} (hok : ∀ c ∈ cols, okS c = true) (hw : Within cols rules) (S : Sm20 rules) (h1 : (∀ c ∈ rule.1, c ∈ cols) ∧ rule.1.length ≤ 20) (h2 : (∀ c ∈ rule.2, c ∈ cols) ∧ rule.2.length ≤ 20)
include hok hw S h1 h2
theorem derives_eq {n : Nat} {ps : List Int} {sp : SV} (hp : Sq sp (ps.map D.int)) (hpl : ps.length ≤ 10000) : R (n + 2) 20 [.fz (.lst (rules.map rl)), .fz (rl rule), sp] = .ok (.fz (.bl (derives rules rule ps))) [.fz (.lst (rules.map rl)), .fz (rl rule), sp] := by
  refine eq_def rfl rfl ?_
  show wp (exc _ _ f_law_derives.body [.fz (.lst (rules.map rl)), .fz (rl rule), sp, .un, .un]) _ _
  unfold f_law_derives
  refine wp_step (e' := [.fz (.lst (rules.map rl)), .fz (rl rule), sp, .ow 1 (.lst (rule.1.map D.str)), .un]) (by simp) ?_
  have hout : ∀ x y, argOut [.fz (.lst (rules.map rl)), .fz (rl rule), sp, x, y] 2 sp = some sp := fun _ _ => argOut_sq hp rfl
  have ulk : ∀ x y, unlockE (lkOf 2 sp) [.fz (.lst (rules.map rl)), .fz (rl rule), sp, x, y] = [.fz (.lst (rules.map rl)), .fz (rl rule), sp, x, y] := fun _ _ => unlock_sq hp rfl
  have hld : ∀ x y, held (lkOf 2 sp) [.fz (.lst (rules.map rl)), .fz (rl rule), sp, x, y] = true := fun _ _ => held_sq hp rfl
  rw [wp_seq]
  refine wp_for (xs := ps) (g := D.int) (evi_sq hp rfl) (DerI rules rule sp) ?_ ?_ ?_
  · rw [lock_sq hp rfl]; exact ⟨_, _, rfl, by simpa using h1.2, rfl, rfl⟩
  · rintro p i q e hx ⟨k, v4, hk, hkl, f4, rfl⟩
    have hpl' : p.length ≤ 10000 := by have h := congrArg List.length hx; simp at h; omega
    refine ⟨hld _ _, [.fz (.lst (rules.map rl)), .fz (rl rule), sp, .ow 1 (.lst (k.map D.str)), .fz (.int i)], by simp [f4], ?_⟩
    by_cases hi0 : i < 0
    · have hd : derives rules rule ps = false := by rw [hx]; exact derives_none hk (by simp [walkD, hi0])
      simp [hi0, hd, hld, ulk, hout]
    · by_cases hi1 : (rules.length : Int) ≤ i
      · have hd : derives rules rule ps = false := by rw [hx]; exact derives_none hk (by simp [walkD, hi1])
        simp [hi0, hi1, hd, hld, ulk, hout]
      · obtain ⟨r, hir⟩ : ∃ r, rules[i.toNat]? = some r := ⟨_, List.getElem?_eq_getElem (by omega)⟩
        have hrm := List.mem_of_getElem? hir
        have hrl := S.rl r hrm
        have hix := didx_rules (by omega) (by omega) hir
        have l1 := lacks_eq (n := n) (Sq_s1 (r := r.1)) (.p : Sq (.pn 1 (.lst (k.map D.str))) (sts k)) (by simp; omega)
        have d1 := deq_snil (xs := lacks r.1 k) fun x hx => hok x ((hw r hrm).1 x (mem_lacks.1 hx).1)
        have hlen : k.length + r.2.length ≤ 16777216 := by omega
        by_cases hn : lacks r.1 k = []
        · have hk' : walkD rules rule.1 (p ++ [i]) = some (k ++ r.2) := by
            rw [walkD_snoc hk]; unfold walkD; rw [if_neg (by omega), hir]; simp only [hn, if_true]; rfl
          rw [hn] at l1 d1
          simp at d1
          simp [hi0, hi1, hix, l1, d1, hlen]
          exact ⟨k ++ r.2, .fz (.int i), hk', by simp; omega, rfl, by simp⟩
        · have hd : derives rules rule ps = false := by
            rw [hx]; exact derives_none hk (by unfold walkD; rw [if_neg (by omega), hir]; simp only [hn, if_false])
          simp [hi0, hi1, hix, l1, d1, hn, hd, hld, ulk, hout]
  · rintro e ⟨k, v4, hk, hkl, f4, rfl⟩
    refine ⟨hld _ _, ?_⟩
    rw [ulk]
    have l1 := lacks_eq (n := n) (Sq_s1 (r := rule.2)) (.p : Sq (.pn 1 (.lst (k.map D.str))) (sts k)) (by have := h2.2; simp; omega)
    have d1 := deq_snil (xs := lacks rule.2 k) fun x hx => hok x (h2.1 x (mem_lacks.1 hx).1)
    have hd : derives rules rule ps = decide (lacks rule.2 k = []) := by unfold derives; rw [hk]
    simp [l1, d1, hd, hout]
theorem is_paper_eq {n : Nat} {ps : List Int} {sp : SV} (hp : Sq sp (ps.map D.int)) (hpt : (∃ ds, sp = .fz (.tup ds)) → False) (hpl : ps.length ≤ 10000) : R (n + 3) 22 [.fz (.lst (rules.map rl)), .fz (rl rule), sp] = .ok (.fz (.bl (derives rules rule ps))) [.fz (.lst (rules.map rl)), .fz (rl rule), sp] := by
  have hd := derives_eq hok hw S h1 h2 (n := n) hp hpl
  refine eq_def rfl rfl ?_
  show wp (exc _ _ f_law_is_paper.body [.fz (.lst (rules.map rl)), .fz (rl rule), sp, .un]) _ _
  unfold f_law_is_paper
  refine wp_step_ifs (e' := [.fz (.lst (rules.map rl)), .fz (rl rule), sp, .un]) (by
    cases hp
    · simp
    · exact (hpt ⟨_, rfl⟩).elim
    · simp) rfl ?_
  rw [wp_seq]
  refine wp_for (xs := ps) (g := D.int) (evi_sq hp rfl) (fun p e => ∃ v3, fr v3 = true ∧ e = [.fz (.lst (rules.map rl)), .fz (rl rule), sp, v3]) ?_ ?_ ?_
  · rw [lock_sq hp rfl]; exact ⟨_, rfl, rfl⟩
  · rintro p i q e hx ⟨v3, f3, rfl⟩
    refine ⟨held_sq hp rfl, [.fz (.lst (rules.map rl)), .fz (rl rule), sp, .fz (.int i)], by simp [f3], ?_⟩
    simp
  · rintro e ⟨v3, f3, rfl⟩
    refine ⟨held_sq hp rfl, ?_⟩
    rw [unlock_sq hp rfl]
    cases hp
    · simp [hd]
    · exact (hpt ⟨_, rfl⟩).elim
    · simp [hd]
end
/-- how far the walk may be -/
theorem walk_eq {n : Nat} {cols left : List Str} {rules : List (Rule Str)} (hok : ∀ c ∈ cols, okS c = true) (hw : Within cols rules) (S : Sm20 rules) (hl : left.length ≤ 20) : ∃ ws : List Int, R (n + 2) 19 [.fz (.lst (rules.map rl)), .fz (.tup (left.map D.str))] = .ok (.ow 1 (.lst (ws.map D.int))) [.fz (.lst (rules.map rl)), .fz (.tup (left.map D.str))] ∧ ws.length ≤ 400 := by
  suffices key : ∀ Q : RV → List SV → Prop, (∀ ws : List Int, ws.length ≤ 400 → Q (.ow 1 (.lst (ws.map D.int))) [.fz (.lst (rules.map rl)), .fz (.tup (left.map D.str))]) → ∃ r ts, R (n + 2) 19 [.fz (.lst (rules.map rl)), .fz (.tup (left.map D.str))] = .ok r ts ∧ Q r ts by
    obtain ⟨r, ts, h, ws, rfl, rfl, hz⟩ := key (fun r ts => ∃ ws : List Int, r = .ow 1 (.lst (ws.map D.int)) ∧ ts = [.fz (.lst (rules.map rl)), .fz (.tup (left.map D.str))] ∧ ws.length ≤ 400) (fun ws a => ⟨ws, rfl, rfl, a⟩)
    exact ⟨ws, h, hz⟩
  intro Q hQ
  refine gives_def rfl rfl ?_
  show wp (exc _ _ f_law_walk.body [.fz (.lst (rules.map rl)), .fz (.tup (left.map D.str)), .un, .un, .un, .un]) _ _
  unfold f_law_walk
  have hrn := S.rn
  refine wp_step (e' := [.fz (.lst (rules.map rl)), .fz (.tup (left.map D.str)), .ow 1 (.lst (left.map D.str)), .un, .un, .un]) (by simp) ?_
  refine wp_step (e' := [.fz (.lst (rules.map rl)), .fz (.tup (left.map D.str)), .ow 1 (.lst (left.map D.str)), .ow 1 (.lst (([] : List Int).map D.int)), .un, .un]) (by simp) ?_
  rw [wp_seq]
  refine wp_for (xs := List.range rules.length) (g := fun (k : Nat) => D.int (k : Int)) (lk := none) (e1 := [.fz (.lst (rules.map rl)), .fz (.tup (left.map D.str)), .ow 1 (.lst (left.map D.str)), .ow 1 (.lst (([] : List Int).map D.int)), .un, .un]) (evi_rng (by simp) (by omega)) (fun q e => ∃ (k : List Str) (ws : List Int) (v4 v5 : SV), k.length ≤ 20 + q.length * rules.length * 20 ∧ ws.length ≤ q.length * rules.length ∧ fr v4 = true ∧ fr v5 = true ∧ e = [.fz (.lst (rules.map rl)), .fz (.tup (left.map D.str)), .ow 1 (.lst (k.map D.str)), .ow 1 (.lst (ws.map D.int)), v4, v5]) ?_ ?_ ?_
  · exact ⟨left, [], _, _, by simpa using hl, by simp, rfl, rfl, rfl⟩
  · rintro q j q' e hx ⟨k, ws, v4, v5, hk, hws, f4, f5, rfl⟩
    have hj := range_mem hx
    have hq := range_pos hx
    refine ⟨rfl, [.fz (.lst (rules.map rl)), .fz (.tup (left.map D.str)), .ow 1 (.lst (k.map D.str)), .ow 1 (.lst (ws.map D.int)), .fz (.int j), v5], by simp [f4], ?_⟩
    rw [wp_seq]
    refine wp_for (xs := List.range rules.length) (g := fun (k : Nat) => D.int (k : Int)) (lk := none) (e1 := [.fz (.lst (rules.map rl)), .fz (.tup (left.map D.str)), .ow 1 (.lst (k.map D.str)), .ow 1 (.lst (ws.map D.int)), .fz (.int j), v5]) (evi_rng (by simp) (by omega)) (fun p e => ∃ (k' : List Str) (ws' : List Int) (v5 : SV), k'.length ≤ k.length + p.length * 20 ∧ ws'.length ≤ ws.length + p.length ∧ fr v5 = true ∧ e = [.fz (.lst (rules.map rl)), .fz (.tup (left.map D.str)), .ow 1 (.lst (k'.map D.str)), .ow 1 (.lst (ws'.map D.int)), .fz (.int j), v5]) ?_ ?_ ?_
    · exact ⟨k, ws, _, by simp, by simp, f5, rfl⟩
    · rintro p i p' e hy ⟨k', ws', v5, hk', hws', f5, rfl⟩
      have hi := range_mem hy
      have hpi := range_pos hy
      have hb1 : q.length * rules.length ≤ 20 * 20 := Nat.mul_le_mul (by omega) hrn
      refine ⟨rfl, [.fz (.lst (rules.map rl)), .fz (.tup (left.map D.str)), .ow 1 (.lst (k'.map D.str)), .ow 1 (.lst (ws'.map D.int)), .fz (.int j), .fz (.int i)], by simp [f5], ?_⟩
      obtain ⟨r, hir⟩ : ∃ r, rules[i]? = some r := ⟨_, List.getElem?_eq_getElem (by omega)⟩
      have hrm := List.mem_of_getElem? hir
      have hrl := S.rl r hrm
      have hix := didx_rules (rules := rules) (i := (i : Int)) (by omega) (by omega) (by simpa using hir)
      have l1 := lacks_eq (n := n) (Sq_s1 (r := r.1)) (.p : Sq (.pn 1 (.lst (k'.map D.str))) (sts k')) (by simp; omega)
      have d1 := deq_snil (xs := lacks r.1 k') fun x hx => hok x ((hw r hrm).1 x (mem_lacks.1 hx).1)
      have dn := din_ints (i := (i : Int)) (us := ws')
      have hlen : k'.length + r.2.length ≤ 16777216 := by omega
      have hwl : ws'.length < 16777216 := by omega
      by_cases hm : (i : Int) ∈ ws'
      · simp [dn, hm]
        exact ⟨k', by omega, ws', by omega, .fz (.int i), rfl, by simp⟩
      · by_cases hn : lacks r.1 k' = []
        · rw [hn] at l1 d1
          simp at d1
          simp [dn, hm, hix, l1, d1, hlen, hwl]
          exact ⟨k' ++ r.2, by simp; omega, ws' ++ [(i : Int)], by simp; omega, .fz (.int i), rfl, by simp⟩
        · simp [dn, hm, hix, l1, d1, hn]
          exact ⟨k', by omega, ws', by omega, .fz (.int i), rfl, by simp⟩
    · rintro e ⟨k', ws', v5, hk', hws', f5, rfl⟩
      refine ⟨rfl, ?_⟩
      simp at hk' hws'
      have e1 : (q.length + 1) * rules.length = q.length * rules.length + rules.length := Nat.succ_mul _ _
      simp
      exact ⟨k', by rw [e1]; omega, ws', by rw [e1]; omega, .fz (.int j), rfl, v5, f5, by simp⟩
  · rintro e ⟨k, ws, v4, v5, hk, hws, f4, f5, rfl⟩
    refine ⟨rfl, ?_⟩
    simp
    refine hQ ws ?_
    have hb1 : rules.length * rules.length ≤ 20 * 20 := Nat.mul_le_mul hrn hrn
    simp at hws
    omega
end K81
end
section
set_option Elab.async false
set_option linter.all false
set_option maxRecDepth 100000
set_option maxHeartbeats 1000000
namespace K81
open PySem L2 Mi Mi.Px Pm
def Gr (cols : List Str) (r : Rule Str) : Prop := L20 cols r.1 ∧ L20 cols r.2
theorem Gr.of {cols : List Str} {r : Rule Str} (h : Rk cols r) : Gr cols r := ⟨⟨h.1, by have := h.2.2.1; omega⟩, ⟨h.2.1, by have := h.2.2.2; omega⟩⟩
theorem snoc_all {β : Type} {P : β → Prop} {l : List β} {x : β} (h : ∀ y ∈ l, P y) (hx : P x) : ∀ y ∈ l ++ [x], P y := by
  intro y hy
  rcases List.mem_append.1 hy with hy | hy
  · exact h y hy
  · rw [List.mem_singleton.1 hy]; exact hx
theorem reach_sub {cols left : List Str} {rules : List (Rule Str)} : ∀ c ∈ reach cols rules left, c ∈ cols := by
  intro c hc; unfold reach at hc; exact (List.mem_filter.1 hc).1
theorem reach_len {cols left : List Str} {rules : List (Rule Str)} : (reach cols rules left).length ≤ cols.length := by
  unfold reach; exact List.length_filter_le _ _
theorem didx_rule_mem {rules : List (Rule Str)} {i : Int} (h0 : 0 ≤ i) (h : i < rules.length) : ∃ r ∈ rules, didx (.lst (rules.map rl)) (.int i) = some (rl r) :=
  ⟨rules[i.toNat]'(by omega), List.getElem_mem _, didx_rules h0 h (List.getElem?_eq_getElem (by omega))⟩
theorem asked_eq {n : Nat} {row : List Int} {p : Int} {cols : List Str} {rules : List (Rule Str)} (hp : 0 ≤ p) (hok : ∀ c ∈ cols, okS c = true) (hcl : cols.length ≤ 12) (hr : ∀ r ∈ rules, Rk cols r) (hrl : rules.length ≤ 12) :
    ∃ (asked : List (Rule Str)) (p' : Int), R (n + 3) 18 [.pn 1 (stD row p), .fz (clD cols), .fz (rsD rules)] = .ok (.ow 1 (rsD asked)) [.pn 1 (stD row p'), .fz (clD cols), .fz (rsD rules)] ∧ (∀ r ∈ asked, Gr cols r) ∧ asked ≠ [] ∧ asked.length ≤ 4 ∧ 0 ≤ p' := by
  have hw : Within cols rules := fun r h => ⟨(hr r h).1, (hr r h).2.1⟩
  have S : Sm20 rules := ⟨fun r h => ⟨by have := (hr r h).2.2.1; omega, by have := (hr r h).2.2.2; omega⟩, by omega⟩
  suffices key : ∀ Q : RV → List SV → Prop, (∀ (asked : List (Rule Str)) (p' : Int), (∀ r ∈ asked, Gr cols r) → asked ≠ [] → asked.length ≤ 4 → 0 ≤ p' → Q (.ow 1 (rsD asked)) [.pn 1 (stD row p'), .fz (clD cols), .fz (rsD rules)]) → ∃ r ts, R (n + 3) 18 [.pn 1 (stD row p), .fz (clD cols), .fz (rsD rules)] = .ok r ts ∧ Q r ts by
    obtain ⟨r, ts, h, l, p', rfl, rfl, hz⟩ := key (fun r ts => ∃ (asked : List (Rule Str)) (p' : Int), r = .ow 1 (rsD asked) ∧ ts = [.pn 1 (stD row p'), .fz (clD cols), .fz (rsD rules)] ∧ (∀ r ∈ asked, Gr cols r) ∧ asked ≠ [] ∧ asked.length ≤ 4 ∧ 0 ≤ p') (fun l p' a b c d => ⟨l, p', rfl, rfl, a, b, c, d⟩)
    exact ⟨l, p', h, hz⟩
  intro Q hQ
  obtain ⟨l1, p1, g1, gs1, gl1, hp1⟩ := pick_eq (n := n) (row := row) (cols := cols) (most := 3) hp (by omega)
  have h4 := reach_def (n := n) (left := l1) hok hcl hw S
  generalize hkn : reach cols rules l1 = known at h4
  have hknc : ∀ c ∈ known, c ∈ cols := by rw [← hkn]; exact reach_sub
  have hknl : known.length ≤ 12 := by rw [← hkn]; have := reach_len (cols := cols) (rules := rules) (left := l1); omega
  have h5 := lacks_eq (n := n + 1) (some' := cols) (known := known) (.l : Sq (.fz (clD cols)) (sts cols)) (.p : Sq (.pn 1 (.lst (known.map D.str))) (sts known)) (by simp; omega)
  obtain ⟨l2, p2, g2, gs2, gl2, hp2⟩ := pick_eq (n := n) (row := row) (cols := cols) (most := 3) hp1 (by omega)
  obtain ⟨l3, p3, g3, gs3, gl3, hp3⟩ := pick_eq (n := n) (row := row) (cols := cols) (most := 3) hp2 (by omega)
  obtain ⟨v1, p4, g4, hv10, hv11, hp4⟩ := take_eq (n := n + 1) (row := row) (many := 3) (by omega) hp3
  generalize hot : lacks cols known = others at h5
  have hotc : ∀ c ∈ others, c ∈ cols := by rw [← hot]; exact fun c hc => (mem_lacks.1 hc).1
  simp at g1 g2 g3
  refine gives_def rfl rfl ?_
  show wp (exc _ _ f_law_asked.body [.pn 1 (stD row p), .fz (clD cols), .fz (rsD rules), .un, .un, .un, .un, .un, .un]) _ _
  unfold f_law_asked
  refine wp_step (e' := [.pn 1 (stD row p1), .fz (clD cols), .fz (rsD rules), .fz (.tup (l1.map D.str)), .un, .un, .un, .un, .un]) (by simp [g1]) ?_
  refine wp_step (e' := [.pn 1 (stD row p1), .fz (clD cols), .fz (rsD rules), .fz (.tup (l1.map D.str)), .ow 1 (clD known), .un, .un, .un, .un]) (by simp [h4]) ?_
  refine wp_step (e' := [.pn 1 (stD row p1), .fz (clD cols), .fz (rsD rules), .fz (.tup (l1.map D.str)), .ow 1 (clD known), .ow 1 (clD others), .un, .un, .un]) (by simp [h5]) ?_
  refine wp_step (e' := [.pn 1 (stD row p2), .fz (clD cols), .fz (rsD rules), .fz (.tup (l1.map D.str)), .ow 1 (clD known), .ow 1 (clD others), .fz (.tup (l2.map D.str)), .un, .un]) (by simp [g2]) ?_
  refine wp_step (e' := [.pn 1 (stD row p3), .fz (clD cols), .fz (rsD rules), .fz (.tup (l1.map D.str)), .ow 1 (clD known), .ow 1 (clD others), .fz (.tup (l2.map D.str)), .ow 1 (rsD [(l3, l2)]), .un]) (by simp [g3, rl]) ?_
  refine wp_step (e' := [.pn 1 (stD row p4), .fz (clD cols), .fz (rsD rules), .fz (.tup (l1.map D.str)), .ow 1 (clD known), .ow 1 (clD others), .fz (.tup (l2.map D.str)), .ow 1 (rsD [(l3, l2), (l1, cutD known (some v1) none)]), .un]) (by simp [g4, rl, cutD_map]) ?_
  have G1 : Gr cols (l3, l2) := Gr.of ⟨gs3, gs2, gl3, gl2⟩
  have G2 : Gr cols (l1, cutD known (some v1) none) := ⟨⟨gs1, by show l1.length ≤ 20; omega⟩, ⟨fun c hc => hknc c (cutD_mem hc), by have := cutD_len (xs := known) (lo := some v1) (hi := none); show (cutD known (some v1) none).length ≤ 20; omega⟩⟩
  have tail2 : ∀ (told : List (Rule Str)) (p5 : Int) (v8 : SV), (∀ r ∈ told, Gr cols r) → told ≠ [] → told.length ≤ 3 → 0 ≤ p5 → wp (exc (R (n + 2)) 100000 (.seq (.ifs (.tst (.cmp .gt (.blt .len [(.var 2)]) (.cst (.int 0)))) (.seq (.expr (.mut .app 7 [(.idx (.var 2) (.call 11 [(.var 0), (.blt .len [(.var 2)])]))]))
    .skip) .skip)
  (.seq (.ret (.var 7))
  .skip)) [.pn 1 (stD row p5), .fz (clD cols), .fz (rsD rules), .fz (.tup (l1.map D.str)), .ow 1 (clD known), .ow 1 (clD others), .fz (.tup (l2.map D.str)), .ow 1 (rsD told), v8]) (fun fl env => match fl with
      | .nx => ∃ ts, argOuts env 0 [.pn 1 (stD row p), .fz (clD cols), .fz (rsD rules)] = some ts ∧ Q (.fz .non) ts
      | .ret r => ∃ ts, argOuts env 0 [.pn 1 (stD row p), .fz (clD cols), .fz (rsD rules)] = some ts ∧ Q r ts
      | _ => False) (fun _ => False) := by
    intro told p5 v8 ht hne htl hp5
    by_cases h0 : 0 < rules.length
    · obtain ⟨i, p6, g6, hi0, hi1, hp6⟩ := take_eq (n := n + 1) (row := row) (many := rules.length) (by omega) hp5
      obtain ⟨r, hrm, hrd⟩ := didx_rule_mem hi0 hi1
      have c1 : told.length < 16777216 := by omega
      have hfin := hQ (told ++ [r]) p6 (snoc_all ht (Gr.of (hr r hrm))) (by simp) (by simp; omega) hp6
      rw [show rsD (told ++ [r]) = .lst (told.map rl ++ [rl r]) by simp [rsD]] at hfin
      simp [h0, g6, hrd, c1]
      exact hfin
    · simp [h0]
      exact hQ told p5 ht hne (by omega) hp5
  rw [wp_seq, wp_ifs]
  have ev1 : evt (R (n + 2)) (.tst (.cmp .gt (.blt .len [(.var 5)]) (.cst (.int 0)))) [.pn 1 (stD row p4), .fz (clD cols), .fz (rsD rules), .fz (.tup (l1.map D.str)), .ow 1 (clD known), .ow 1 (clD others), .fz (.tup (l2.map D.str)), .ow 1 (rsD [(l3, l2), (l1, cutD known (some v1) none)]), .un] = .ok (decide ((0 : Int) < others.length)) [.pn 1 (stD row p4), .fz (clD cols), .fz (rsD rules), .fz (.tup (l1.map D.str)), .ow 1 (clD known), .ow 1 (clD others), .fz (.tup (l2.map D.str)), .ow 1 (rsD [(l3, l2), (l1, cutD known (some v1) none)]), .un] := by simp
  rw [ev1, wp_ok]
  by_cases h0 : (0 : Int) < others.length
  · rw [if_pos (decide_eq_true h0)]
    obtain ⟨i, p5, g5, hi0, hi1, hp5⟩ := take_eq (n := n + 1) (row := row) (many := others.length) (by omega) hp4
    obtain ⟨x, hxm, hxd⟩ := didx_mem hi0 hi1
    obtain ⟨v2, p6, g6, hv20, hv21, hp6⟩ := take_eq (n := n + 1) (row := row) (many := 4) (by omega) hp5
    refine wp_step (e' := [.pn 1 (stD row p5), .fz (clD cols), .fz (rsD rules), .fz (.tup (l1.map D.str)), .ow 1 (clD known), .ow 1 (clD others), .fz (.tup (l2.map D.str)), .ow 1 (rsD [(l3, l2), (l1, cutD known (some v1) none)]), .fz (.str x)]) (by simp [g5, hxd]) ?_
    have c2 : (cutD known none (some v2)).length ≤ 12 := by have := cutD_len (xs := known) (lo := none) (hi := some v2); omega
    have c3 : (cutD known none (some v2)).length + 1 ≤ 16777216 := by omega
    refine wp_step (e' := [.pn 1 (stD row p6), .fz (clD cols), .fz (rsD rules), .fz (.tup (l1.map D.str)), .ow 1 (clD known), .ow 1 (clD others), .fz (.tup (l2.map D.str)), .ow 1 (rsD [(l3, l2), (l1, cutD known (some v1) none), (l1, cutD known none (some v2) ++ [x])]), .fz (.str x)]) (by simp [g6, rl, cutD_map, c3]) ?_
    rw [exc_skip, wp_ok]
    have G3 : Gr cols (l1, cutD known none (some v2) ++ [x]) := ⟨⟨gs1, by show l1.length ≤ 20; omega⟩, ⟨snoc_all (fun c hc => hknc c (cutD_mem hc)) (hotc x hxm), by show (cutD known none (some v2) ++ [x]).length ≤ 20; simp; omega⟩⟩
    exact tail2 _ p6 _ (fun r hr => by simp at hr; rcases hr with rfl | rfl | rfl <;> assumption) (by simp) (by simp) hp6
  · rw [if_neg (by rw [decide_eq_true_eq]; exact h0), exc_skip, wp_ok]
    exact tail2 _ p4 _ (fun r hr => by simp at hr; rcases hr with rfl | rfl <;> assumption) (by simp) (by simp) hp4
/-- papers -/
abbrev ppD (ps : List (List Int)) : D := .lst (ps.map fun p => D.lst (p.map D.int))
theorem papers_eq {n : Nat} {row : List Int} {p : Int} {m : Nat} {ws : List Int} (hp : 0 ≤ p) (hwl : ws.length ≤ 400) :
    ∃ (pps : List (List Int)) (p' : Int), R (n + 2) 21 [.pn 1 (stD row p), .fz (.int m), .pn 1 (.lst (ws.map D.int))] = .ok (.ow 1 (ppD pps)) [.pn 1 (stD row p'), .fz (.int m), .pn 1 (.lst (ws.map D.int))] ∧ (∀ q ∈ pps, q.length ≤ 1000) ∧ 0 ≤ p' := by
  obtain ⟨a, p1, h1, ha0, ha1, hp1⟩ := take_eq (n := n) (row := row) (many := 5) (by omega) hp
  obtain ⟨j, rfl⟩ : ∃ j : Nat, a = j := ⟨a.toNat, by omega⟩
  have hs : evi (R (n + 1)) (.rng1 (.call 11 [(.var 0), (.cst (.int 5))])) [.pn 1 (stD row p), .fz (.int m), .pn 1 (.lst (ws.map D.int)), .un, .un, .un, .un, .un] = .ok ((List.range j).map fun (k : Nat) => D.int (k : Int), none) [.pn 1 (stD row p1), .fz (.int m), .pn 1 (.lst (ws.map D.int)), .un, .un, .un, .un, .un] := by
    rw [evi_rng1]
    have : ev (R (n + 1)) (.call 11 [(.var 0), (.cst (.int 5))]) [.pn 1 (stD row p), .fz (.int m), .pn 1 (.lst (ws.map D.int)), .un, .un, .un, .un, .un] = .ok (.fz (.int j)) [.pn 1 (stD row p1), .fz (.int m), .pn 1 (.lst (ws.map D.int)), .un, .un, .un, .un, .un] := by simp [h1]
    rw [this, Rs.bind_ok]
    simp only [sm62 (j := j) (by omega), if_true, rng_map]
  obtain ⟨dsl, en, ⟨us, p2, hus, hp2, hdsl, hen⟩, hdl, hev⟩ := ev_lcp (nm := "k") (j := 7) (c := none) (e := .bin .sub (.call 11 [(.var 0), (.bin .add (.var 1) (.cst (.int 2)))]) (.cst (.int 1))) hs (by simp) (by simp; omega)
    (fun acc en => ∃ (us : List Int) (p2 : Int), us.length = acc.length ∧ 0 ≤ p2 ∧ acc = us.map D.int ∧ en = [.pn 1 (stD row p2), .fz (.int m), .pn 1 (.lst (ws.map D.int)), .un, .un, .un, .un, .un]) ⟨[], p1, rfl, hp1, rfl, by simp⟩
    (fun x hx acc en hI => by
      obtain ⟨us, p2, hl, hp2, rfl, rfl⟩ := hI
      obtain ⟨v, p3, g, hv0, hv1, hp3⟩ := take_eq (n := n) (row := row) (many := (m : Int) + 2) (by omega) hp2
      refine ⟨[.pn 1 (stD row p2), .fz (.int m), .pn 1 (.lst (ws.map D.int)), .un, .un, .un, .un, .fz (.int x)], by simp, ?_⟩
      have e : turn1 (R (n + 1)) none (.bin .sub (.call 11 [(.var 0), (.bin .add (.var 1) (.cst (.int 2)))]) (.cst (.int 1))) [.pn 1 (stD row p2), .fz (.int m), .pn 1 (.lst (ws.map D.int)), .un, .un, .un, .un, .fz (.int x)] = .ok (some (.int (v - 1))) [.pn 1 (stD row p3), .fz (.int m), .pn 1 (.lst (ws.map D.int)), .un, .un, .un, .un, .fz (.int x)] := by simp [g]
      rw [e, wp_ok]
      exact ⟨us ++ [v - 1], p3, by simp, hp3, by simp, by simp⟩)
    (fun acc en hI => rfl)
  have hen7 : unlockE none (undo [.pn 1 (stD row p1), .fz (.int m), .pn 1 (.lst (ws.map D.int)), .un, .un, .un, .un, .un] en [7]) = [.pn 1 (stD row p2), .fz (.int m), .pn 1 (.lst (ws.map D.int)), .un, .un, .un, .un, .un] := by
    simpa using hen
  rw [hen7] at hev
  subst hdsl
  have husl : us.length ≤ 5 := by simp at hdl; omega
  obtain ⟨v, p3, g3, hv0, hv1, hp3⟩ := take_eq (n := n) (row := row) (many := (ws.length : Int) + 1) (by omega) hp2
  obtain ⟨v2, p4, g4, _, _, hp4⟩ := take_eq (n := n) (row := row) (many := (m : Int) + 2) (by omega) hp3
  have cl1 := cutD_len (xs := ws) (lo := none) (hi := some v)
  have cl2 := cutD_len (xs := ws) (lo := some (v + 1)) (hi := none)
  have cl3 := cutD_len (xs := ws) (lo := some v) (hi := none)
  have c1 : (cutD ws none (some v)).length + (cutD ws (some (v + 1)) none).length ≤ 16777216 := by omega
  have c2 : (cutD ws none (some v)).length + 1 ≤ 16777216 := by omega
  have c3 : (cutD ws none (some v)).length + 1 + (cutD ws (some v) none).length ≤ 16777216 := by omega
  refine ⟨[[], ws, us, cutD ws none (some v) ++ cutD ws (some (v + 1)) none, (cutD ws none (some v) ++ [v2 - 1]) ++ cutD ws (some v) none, ws.reverse], p4, ?_, ?_, hp4⟩
  · refine eq_def rfl rfl ?_
    show wp (exc _ _ f_law_papers.body [.pn 1 (stD row p), .fz (.int m), .pn 1 (.lst (ws.map D.int)), .un, .un, .un, .un, .un]) _ _
    unfold f_law_papers
    refine wp_step (e' := [.pn 1 (stD row p2), .fz (.int m), .pn 1 (.lst (ws.map D.int)), .ow 1 (.lst (us.map D.int)), .un, .un, .un, .un]) (by rw [exc_set, hev]; simp) ?_
    refine wp_step (e' := [.pn 1 (stD row p3), .fz (.int m), .pn 1 (.lst (ws.map D.int)), .ow 1 (.lst (us.map D.int)), .fz (.int v), .un, .un, .un]) (by simp [g3]) ?_
    refine wp_step (e' := [.pn 1 (stD row p3), .fz (.int m), .pn 1 (.lst (ws.map D.int)), .fz (.lst (us.map D.int)), .fz (.int v), .ow 1 (ppD [[], ws, us, cutD ws none (some v) ++ cutD ws (some (v + 1)) none]), .un, .un]) (by simp [cutD_map, c1]) ?_
    refine wp_step (e' := [.pn 1 (stD row p4), .fz (.int m), .pn 1 (.lst (ws.map D.int)), .fz (.lst (us.map D.int)), .fz (.int v), .ow 1 (ppD [[], ws, us, cutD ws none (some v) ++ cutD ws (some (v + 1)) none]), .fz (.int (v2 - 1)), .un]) (by simp [g4]) ?_
    refine wp_step (e' := [.pn 1 (stD row p4), .fz (.int m), .pn 1 (.lst (ws.map D.int)), .fz (.lst (us.map D.int)), .fz (.int v), .ow 1 (ppD [[], ws, us, cutD ws none (some v) ++ cutD ws (some (v + 1)) none, (cutD ws none (some v) ++ [v2 - 1]) ++ cutD ws (some v) none]), .fz (.int (v2 - 1)), .un]) (by simp [cutD_map, c2, c3]) ?_
    simp
  · intro q hq
    simp only [List.mem_cons, List.not_mem_nil, or_false] at hq
    rcases hq with rfl | rfl | rfl | rfl | rfl | rfl
    · simp
    · omega
    · omega
    · simp; omega
    · simp; omega
    · simp; omega
end K81
end
section
set_option Elab.async false
set_option linter.all false
set_option maxRecDepth 100000
set_option maxHeartbeats 1000000
namespace K81
open PySem L2 Mi Mi.Px Pm
theorem findD_strs {c : Str} : ∀ {cols : List Str}, c ∈ cols → findD (.str c) (cols.map D.str) = some (cols.idxOf c)
  | [], h => by cases h
  | x :: cols, h => by
    by_cases hx : x = c
    · subst hx; simp [findD, D.toV, eqV]
    · have hb : (x == c) = false := by simpa using hx
      simp only [List.map_cons, findD]
      rw [if_neg (by simp [D.toV, eqV, hx]), findD_strs (by rcases List.mem_cons.1 h with e | h; { exact absurd e.symm hx }; { exact h })]
      rw [List.idxOf_cons, hb]; rfl
theorem metd_index {cols : List Str} {c : Str} (h : c ∈ cols) : metd .index (.lst (cols.map D.str)) [.str c] = some (.int (cols.idxOf c : Nat)) := by
  have hf : (cols.map D.str).all D.flat = true := by simp [D.flat]
  show (if (D.str c).flat && (cols.map D.str).all D.flat then _ else none) = _
  rw [hf, findD_strs h]
  rfl
def ixD (cols l : List Str) : List D := l.map fun c => D.int (cols.idxOf c : Nat)
def apD (cols l r s : List Str) : List D := l.filterMap fun c => if cell cols r c ≠ cell cols s c then some (D.int (cols.idxOf c : Nat)) else none
theorem apD_nil {cols l r s : List Str} : (apD cols l r s).isEmpty = decide (fk cols l r = fk cols l s) := by
  unfold apD fk
  induction l with
  | nil => simp
  | cons c l ih =>
    by_cases h : cell cols r c = cell cols s c
    · have e : (if cell cols r c ≠ cell cols s c then some (D.int (cols.idxOf c : Nat)) else none) = none := by simp [h]
      rw [List.filterMap_cons_none (f := fun c => if cell cols r c ≠ cell cols s c then some (D.int (cols.idxOf c : Nat)) else none) (a := c) e, ih]
      simp only [List.map_cons, List.cons.injEq, h, true_and]
    · simp [h]
theorem apD_deq {cols l r s : List Str} : deq (.lst (apD cols l r s)) (.lst []) = some (decide (fk cols l r = fk cols l s)) := by
  rw [deq_nil (n := 0) ?_ (by omega), apD_nil]
  simp only [okd]
  rw [okds_all]
  intro d hd
  simp only [apD, List.mem_filterMap] at hd
  obtain ⟨c, _, h⟩ := hd
  split at h
  · cases h; simp [okd]
  · cases h
def KpI (cols : List Str) (rows : List (List Str)) (sr : SV) (rule : Rule Str) (r : List Str) (p : List (List Str)) (e : Mi.Env) : Prop := ∃ v6 v8 v9, (∀ s ∈ p, fk cols rule.1 r = fk cols rule.1 s → fk cols rule.2 r = fk cols rule.2 s) ∧ fr v6 = true ∧ fr v8 = true ∧ fr v9 = true ∧ e = [.fz (clD cols), sr, .fz (rl rule), .ow 1 (.lst (ixD cols rule.1)), .ow 1 (.lst (ixD cols rule.2)), .fz (rowD r), v6, .un, v8, v9, .un]
theorem kept_def {n : Nat} {cols : List Str} {rows : List (List Str)} {rule : Rule Str} {sr : SV} (hr : Sq sr (rows.map rowD)) (W : Rw cols rows) (g1 : L20 cols rule.1) (g2 : L20 cols rule.2) :
    R (n + 1) 23 [.fz (clD cols), sr, .fz (rl rule)] = .ok (.fz (.bl (kept cols rows rule))) [.fz (clD cols), sr, .fz (rl rule)] := by
  have gl1 := g1.len
  have gl2 := g2.len
  refine eq_def rfl rfl ?_
  show wp (exc _ _ f_law_kept.body [.fz (clD cols), sr, .fz (rl rule), .un, .un, .un, .un, .un, .un, .un, .un]) _ _
  unfold f_law_kept
  have h3 : ev (R n) (.lcp [("one", 7)] (.nm 7) (.seq (.idx (.var 2) (.cst (.int 0)))) none (.met .index (.var 0) [(.var 7)])) [.fz (clD cols), sr, .fz (rl rule), .un, .un, .un, .un, .un, .un, .un, .un] = .ok (.ow 1 (.lst (rule.1.filterMap fun c => some (D.int (cols.idxOf c : Nat))))) [.fz (clD cols), sr, .fz (rl rule), .un, .un, .un, .un, .un, .un, .un, .un] := by
    refine ev_lcp0 (xs := rule.1) (g := D.str) _ (e1 := [.fz (clD cols), sr, .fz (rl rule), .un, .un, .un, .un, .un, .un, .un, .un]) (lk := none) (by simp) (by simp) (by simp; omega) (fun _ _ h => by cases h) (fun c hc => ?_)
    simp [metd_index (g1.sub c hc)]
  have h4 : ev (R n) (.lcp [("one", 7)] (.nm 7) (.seq (.idx (.var 2) (.cst (.int 1)))) none (.met .index (.var 0) [(.var 7)])) [.fz (clD cols), sr, .fz (rl rule), .ow 1 (.lst (ixD cols rule.1)), .un, .un, .un, .un, .un, .un, .un] = .ok (.ow 1 (.lst (rule.2.filterMap fun c => some (D.int (cols.idxOf c : Nat))))) [.fz (clD cols), sr, .fz (rl rule), .ow 1 (.lst (ixD cols rule.1)), .un, .un, .un, .un, .un, .un, .un] := by
    refine ev_lcp0 (xs := rule.2) (g := D.str) _ (e1 := [.fz (clD cols), sr, .fz (rl rule), .ow 1 (.lst (ixD cols rule.1)), .un, .un, .un, .un, .un, .un, .un]) (lk := none) (by simp) (by simp) (by simp; omega) (fun _ _ h => by cases h) (fun c hc => ?_)
    simp [metd_index (g2.sub c hc)]
  refine wp_step (e' := [.fz (clD cols), sr, .fz (rl rule), .ow 1 (.lst (ixD cols rule.1)), .un, .un, .un, .un, .un, .un, .un]) (by rw [exc_set, h3]; simp [ixD]) ?_
  refine wp_step (e' := [.fz (clD cols), sr, .fz (rl rule), .ow 1 (.lst (ixD cols rule.1)), .ow 1 (.lst (ixD cols rule.2)), .un, .un, .un, .un, .un, .un]) (by rw [exc_set, h4]; simp [ixD]) ?_
  have hout : ∀ a b c d e f g h, argOut [.fz (clD cols), sr, .fz (rl rule), a, b, c, d, e, f, g, h] 1 sr = some sr := fun _ _ _ _ _ _ _ _ => argOut_sq hr rfl
  have ulk : ∀ a b c d e f g h, unlockE (lkOf 1 sr) [.fz (clD cols), sr, .fz (rl rule), a, b, c, d, e, f, g, h] = [.fz (clD cols), sr, .fz (rl rule), a, b, c, d, e, f, g, h] := fun _ _ _ _ _ _ _ _ => unlock_sq hr rfl
  have hld : ∀ a b c d e f g h, held (lkOf 1 sr) [.fz (clD cols), sr, .fz (rl rule), a, b, c, d, e, f, g, h] = true := fun _ _ _ _ _ _ _ _ => held_sq hr rfl
  rw [wp_seq]
  refine wp_for (xs := rows) (g := rowD) (evi_sq hr rfl) (fun p e => ∃ v5 v6 v8 v9, (∀ r ∈ p, ∀ s ∈ rows, fk cols rule.1 r = fk cols rule.1 s → fk cols rule.2 r = fk cols rule.2 s) ∧ fr v5 = true ∧ fr v6 = true ∧ fr v8 = true ∧ fr v9 = true ∧ e = [.fz (clD cols), sr, .fz (rl rule), .ow 1 (.lst (ixD cols rule.1)), .ow 1 (.lst (ixD cols rule.2)), v5, v6, .un, v8, v9, .un]) ?_ ?_ ?_
  · rw [lock_sq hr rfl]; exact ⟨_, _, _, _, fun r hr => (by cases hr), rfl, rfl, rfl, rfl, rfl⟩
  · rintro p r q e hx ⟨v5, v6, v8, v9, hp, f5, f6, f8, f9, rfl⟩
    obtain ⟨hrl, hrok⟩ := W r (by rw [hx]; simp)
    refine ⟨hld _ _ _ _ _ _ _ _, [.fz (clD cols), sr, .fz (rl rule), .ow 1 (.lst (ixD cols rule.1)), .ow 1 (.lst (ixD cols rule.2)), .fz (rowD r), v6, .un, v8, v9, .un], by simp [f5], ?_⟩
    rw [wp_seq]
    refine wp_for (xs := rows) (g := rowD) (evi_sq hr rfl) (KpI cols rows sr rule r) ?_ ?_ ?_
    · rw [lock_sq hr rfl]; exact ⟨_, _, _, fun r hr => (by cases hr), f6, f8, f9, rfl⟩
    · rintro p' s q' e hy ⟨v6, v8, v9, hp', f6, f8, f9, rfl⟩
      obtain ⟨hsl, hsok⟩ := W s (by rw [hy]; simp)
      refine ⟨hld _ _ _ _ _ _ _ _, [.fz (clD cols), sr, .fz (rl rule), .ow 1 (.lst (ixD cols rule.1)), .ow 1 (.lst (ixD cols rule.2)), .fz (rowD r), .fz (rowD s), .un, v8, v9, .un], by simp [f6], ?_⟩
      have a1 : ev (R n) (.lcp [("at", 10)] (.nm 10) (.seq (.var 3)) (some (.tst (.cmp .ne (.idx (.var 5) (.var 10)) (.idx (.var 6) (.var 10))))) (.var 10)) [.fz (clD cols), sr, .fz (rl rule), .ow 1 (.lst (ixD cols rule.1)), .ow 1 (.lst (ixD cols rule.2)), .fz (rowD r), .fz (rowD s), .un, v8, v9, .un] = .ok (.ow 1 (.lst (apD cols rule.1 r s))) [.fz (clD cols), sr, .fz (rl rule), .ow 1 (.lst (ixD cols rule.1)), .ow 1 (.lst (ixD cols rule.2)), .fz (rowD r), .fz (rowD s), .un, v8, v9, .un] := by
        refine ev_lcp0 (xs := rule.1) (g := fun c => D.int (cols.idxOf c : Nat)) _ (e1 := [.fz (clD cols), sr, .fz (rl rule), .ow 1 (.lst (ixD cols rule.1)), .ow 1 (.lst (ixD cols rule.2)), .fz (rowD r), .fz (rowD s), .un, v8, v9, .un]) (lk := some (3, .ow 1 (.lst (ixD cols rule.1)))) (by simp [ixD]) (by simp) (by simp; omega) (fun i u h => by cases h; exact ⟨by decide, rfl⟩) (fun c hc => ?_)
        have d1 := didx_cell (g1.sub c hc) hrl
        have d2 := didx_cell (g1.sub c hc) hsl
        by_cases he : cell cols r c = cell cols s c <;> simp [d1, d2, he]
      have a2 : ∀ v8, ev (R n) (.lcp [("at", 10)] (.nm 10) (.seq (.var 4)) (some (.tst (.cmp .ne (.idx (.var 5) (.var 10)) (.idx (.var 6) (.var 10))))) (.var 10)) [.fz (clD cols), sr, .fz (rl rule), .ow 1 (.lst (ixD cols rule.1)), .ow 1 (.lst (ixD cols rule.2)), .fz (rowD r), .fz (rowD s), .un, v8, v9, .un] = .ok (.ow 1 (.lst (apD cols rule.2 r s))) [.fz (clD cols), sr, .fz (rl rule), .ow 1 (.lst (ixD cols rule.1)), .ow 1 (.lst (ixD cols rule.2)), .fz (rowD r), .fz (rowD s), .un, v8, v9, .un] := by
        intro v8
        refine ev_lcp0 (xs := rule.2) (g := fun c => D.int (cols.idxOf c : Nat)) _ (e1 := [.fz (clD cols), sr, .fz (rl rule), .ow 1 (.lst (ixD cols rule.1)), .ow 1 (.lst (ixD cols rule.2)), .fz (rowD r), .fz (rowD s), .un, v8, v9, .un]) (lk := some (4, .ow 1 (.lst (ixD cols rule.2)))) (by simp [ixD]) (by simp) (by simp; omega) (fun i u h => by cases h; exact ⟨by decide, rfl⟩) (fun c hc => ?_)
        have d1 := didx_cell (g2.sub c hc) hrl
        have d2 := didx_cell (g2.sub c hc) hsl
        by_cases he : cell cols r c = cell cols s c <;> simp [d1, d2, he]
      refine wp_step (e' := [.fz (clD cols), sr, .fz (rl rule), .ow 1 (.lst (ixD cols rule.1)), .ow 1 (.lst (ixD cols rule.2)), .fz (rowD r), .fz (rowD s), .un, .ow 1 (.lst (apD cols rule.1 r s)), v9, .un]) (by rw [exc_set, a1]; simp [f8]) ?_
      refine wp_step (e' := [.fz (clD cols), sr, .fz (rl rule), .ow 1 (.lst (ixD cols rule.1)), .ow 1 (.lst (ixD cols rule.2)), .fz (rowD r), .fz (rowD s), .un, .ow 1 (.lst (apD cols rule.1 r s)), .ow 1 (.lst (apD cols rule.2 r s)), .un]) (by rw [exc_set, a2]; simp [f9]) ?_
      have q1 := apD_deq (cols := cols) (l := rule.1) (r := r) (s := s)
      have q2 := apD_deq (cols := cols) (l := rule.2) (r := r) (s := s)
      by_cases e1 : fk cols rule.1 r = fk cols rule.1 s
      · by_cases e2 : fk cols rule.2 r = fk cols rule.2 s
        · simp [q1, q2, e1, e2]
          refine ⟨.fz (rowD s), .ow 1 (.lst (apD cols rule.1 r s)), .ow 1 (.lst (apD cols rule.2 r s)), snoc_all hp' (fun _ => e2), rfl, rfl, rfl, rfl⟩
        · have hk : kept cols rows rule = false := by
            unfold kept
            rw [decide_eq_false_iff_not]
            exact fun h => e2 (h r (by rw [hx]; simp) s (by rw [hy]; simp) e1)
          simp [q1, q2, e1, e2, hk, hld, ulk, hout]
      · simp [q1, e1]
        refine ⟨.fz (rowD s), .ow 1 (.lst (apD cols rule.1 r s)), .ow 1 (.lst (apD cols rule.2 r s)), snoc_all hp' (fun h => absurd h e1), rfl, rfl, rfl, rfl⟩
    · rintro e ⟨v6, v8, v9, hp', f6, f8, f9, rfl⟩
      refine ⟨hld _ _ _ _ _ _ _ _, ?_⟩
      rw [ulk]
      simp only [exc_skip, wp_ok]
      exact ⟨_, _, _, _, snoc_all hp hp', rfl, f6, f8, f9, rfl⟩
  · rintro e ⟨v5, v6, v8, v9, hp, f5, f6, f8, f9, rfl⟩
    refine ⟨hld _ _ _ _ _ _ _ _, ?_⟩
    rw [ulk]
    have hk : kept cols rows rule = true := by unfold kept; rw [decide_eq_true_eq]; exact hp
    simp [hk, hout]
theorem is_two_eq {n : Nat} {cols : List Str} {A B : List Str} (hA : A.length = cols.length) (hB : B.length = cols.length) (hA2 : ∀ x ∈ A, x = ("a" : Str) ∨ x = ("b" : Str)) (hB2 : ∀ x ∈ B, x = ("a" : Str) ∨ x = ("b" : Str)) :
    R (n + 1) 24 [.fz (clD cols), .pn 1 (.lst [rowD A, rowD B])] = .ok (.fz (.bl true)) [.fz (clD cols), .pn 1 (.lst [rowD A, rowD B])] := by
  refine eq_def rfl rfl ?_
  show wp (exc _ _ f_law_is_two.body [.fz (clD cols), .pn 1 (.lst [rowD A, rowD B]), .un, .un]) _ _
  unfold f_law_is_two
  refine wp_step_ifs (e' := [.fz (clD cols), .pn 1 (.lst [rowD A, rowD B]), .un, .un]) (by simp) rfl ?_
  rw [wp_seq]
  refine wp_for (xs := [A, B]) (g := rowD) (lk := some (1, .pn 1 (.lst [rowD A, rowD B]))) (e1 := [.fz (clD cols), .pn 1 (.lst [rowD A, rowD B]), .un, .un]) (by simp) (fun p e => ∃ v2 v3, fr v2 = true ∧ fr v3 = true ∧ e = [.fz (clD cols), .pn 1 (.lst [rowD A, rowD B]), v2, v3]) ?_ ?_ ?_
  · exact ⟨_, _, rfl, rfl, rfl⟩
  · rintro p r q e hx ⟨v2, v3, f2, f3, rfl⟩
    have hr : r = A ∨ r = B := by have : r ∈ [A, B] := by { rw [hx]; simp }; simpa using this
    have hrl : r.length = cols.length := by rcases hr with rfl | rfl <;> assumption
    have hr2 : ∀ x ∈ r, x = ("a" : Str) ∨ x = ("b" : Str) := by rcases hr with rfl | rfl <;> assumption
    refine ⟨by simp, [.fz (clD cols), .pn 1 (.lst [rowD A, rowD B]), .fz (rowD r), v3], by simp [f2], ?_⟩
    have hro : rowD r = .tup (r.map D.str) := rfl
    refine wp_step_ifs (e' := [.fz (clD cols), .pn 1 (.lst [rowD A, rowD B]), .fz (rowD r), v3]) (by simp [hro, hrl]) rfl ?_
    rw [wp_seq]
    refine wp_for (xs := r) (g := D.str) (lk := none) (e1 := [.fz (clD cols), .pn 1 (.lst [rowD A, rowD B]), .fz (rowD r), v3]) (by simp [hro]) (fun p e => ∃ v3, fr v3 = true ∧ e = [.fz (clD cols), .pn 1 (.lst [rowD A, rowD B]), .fz (rowD r), v3]) ?_ ?_ ?_
    · exact ⟨_, f3, rfl⟩
    · rintro p' x q' e hy ⟨v3, f3, rfl⟩
      have hx2 := hr2 x (by rw [hy]; simp)
      refine ⟨rfl, [.fz (clD cols), .pn 1 (.lst [rowD A, rowD B]), .fz (rowD r), .fz (.str x)], by simp [f3], ?_⟩
      have hd : din (.str x) (.tup [.str ("a" : Str), .str ("b" : Str)]) = some true := by
        have := din_tup (x := x) (xs := [("a" : Str), ("b" : Str)])
        simp only [List.map_cons, List.map_nil] at this
        rw [this]
        rcases hx2 with rfl | rfl <;> simp
      simp [hd]
    · rintro e ⟨v3, f3, rfl⟩
      refine ⟨rfl, ?_⟩
      simp [f3]
  · rintro e ⟨v2, v3, f2, f3, rfl⟩
    simp
end K81
end
section
set_option Elab.async false
set_option linter.all false
set_option maxRecDepth 100000
set_option maxHeartbeats 1000000
namespace K81
open PySem L2 Mi Mi.Px Pm
structure St (cols : List Str) (rules : List (Rule Str)) : Prop where
  gc : Gc cols
  rr : ∀ r ∈ rules, Rk cols r
  rn : rules.length ≤ 12
section
variable {cols : List Str} {rules : List (Rule Str)} (T : St cols rules)
include T
theorem St.w : Within cols rules := fun r h => ⟨(T.rr r h).1, (T.rr r h).2.1⟩
theorem St.s20 : Sm20 rules := ⟨fun r h => ⟨by have := (T.rr r h).2.2.1; omega, by have := (T.rr r h).2.2.2; omega⟩, by have := T.rn; omega⟩
theorem St.gd : Gd cols rules := ⟨T.gc.nd, T.gc.ok, by have := T.gc.len; omega, T.w, fun r h => ⟨by have := (T.rr r h).2.2.1; omega, by have := (T.rr r h).2.2.2; omega⟩, by have := T.rn; omega⟩
end
theorem deq_cl {l : List Str} (h : ∀ c ∈ l, okS c = true) : deq (.lst (l.map D.str)) (.lst (l.map D.str)) = some true :=
  deq_refl (n := 1) (by simp only [okd]; exact okds_strs h) (by omega)
theorem okd_rl {r : Rule Str} (h1 : ∀ c ∈ r.1, okS c = true) (h2 : ∀ c ∈ r.2, okS c = true) : okd 2 (rl r) = true := by
  have e1 : okds 0 (r.1.map D.str) = true := okds_strs h1
  have e2 : okds 0 (r.2.map D.str) = true := okds_strs h2
  simp [rl, okd, okds, e1, e2]
theorem deq_rs {cols : List Str} {rules : List (Rule Str)} (hok : ∀ c ∈ cols, okS c = true) (hw : Within cols rules) : deq (.lst (rules.map rl)) (.lst (rules.map rl)) = some true := by
  refine deq_refl (n := 3) ?_ (by omega)
  simp only [okd]
  rw [okds_all]
  intro d hd
  simp only [List.mem_map] at hd
  obtain ⟨r, hr, rfl⟩ := hd
  exact okd_rl (fun c hc => hok c ((hw r hr).1 c hc)) (fun c hc => hok c ((hw r hr).2 c hc))
theorem deq_il {l : List Int} : deq (.lst (l.map D.int)) (.lst (l.map D.int)) = some true :=
  deq_refl (n := 1) (by simp only [okd]; rw [okds_all]; intro d hd; simp only [List.mem_map] at hd; obtain ⟨i, _, rfl⟩ := hd; simp [okd]) (by omega)
theorem closed_eq {n : Nat} {cols left : List Str} {rules : List (Rule Str)} (T : St cols rules) (L : L20 cols left) :
    R (n + 4) 25 [.fz (clD cols), .fz (rsD rules), .fz (.tup (left.map D.str))] = .ok (.fz (.bl true)) [.fz (clD cols), .fz (rsD rules), .fz (.tup (left.map D.str))] := by
  have hr := reach_def (n := n + 1) (left := left) T.gc.ok T.gc.len T.w T.s20
  have hc1 := closure_eq (n := n) (left := left) T.gd (.p : Sq (.pn 1 (clD cols)) (sts cols)) (.p : Sq (.pn 1 (rsD rules)) (rules.map rl)) (.p : Sq (.pn 1 (clD left)) (sts left)) L.lf
  have hc2 := closure_eq (n := n) (left := left) T.gd (.t : Sq (.fz (.tup (cols.map D.str))) (sts cols)) (.t : Sq (.fz (.tup (rules.map rl))) (rules.map rl)) (.t : Sq (.fz (.tup (left.map D.str))) (sts left)) L.lf
  generalize hd : reach cols rules left = du at hr hc1 hc2
  have hdu : ∀ c ∈ du, c ∈ cols := by rw [← hd]; exact reach_sub
  have hdl : du.length ≤ 12 := by rw [← hd]; have := reach_len (cols := cols) (rules := rules) (left := left); have := T.gc.len; omega
  have q1 := deq_cl fun c hc => T.gc.ok c (hdu c hc)
  have q2 := deq_cl T.gc.ok
  have q3 := deq_rs T.gc.ok T.w
  have q4 := deq_cl fun c hc => T.gc.ok c (L.sub c hc)
  have c1 : du.length < 16777216 := by omega
  have c2 : left.length < 16777216 := by have := L.len; omega
  refine eq_def rfl rfl ?_
  show wp (exc _ _ f_law_closed.body [.fz (clD cols), .fz (rsD rules), .fz (.tup (left.map D.str)), .un, .un, .un, .un, .un, .un]) _ _
  unfold f_law_closed
  simp [hr, hc1, hc2, q1, q2, q3, q4, c1, c2]
theorem due_dec {cols : List Str} {rules : List (Rule Str)} {rule : Rule Str} : due cols rules rule = decide (lacks rule.2 (reach cols rules rule.1) = []) := by
  unfold due; cases lacks rule.2 (reach cols rules rule.1) <;> simp
theorem usD_eq (u : List Nat) : usD u = .lst ((nzs u).map D.int) := by simp [usD, nzs]
/-- due, as the law finds it -/
theorem ev_due {n : Nat} {cols : List Str} {rules : List (Rule Str)} {rule : Rule Str} (T : St cols rules) (g1 : L20 cols rule.1) (g2 : L20 cols rule.2) (i i1 i2 : Nat) (env : Mi.Env) (h1 : env[i]? = some (.fz (clD cols))) (h2 : env[i1]? = some (.fz (rsD rules))) (h3 : env[i2]? = some (.fz (rl rule))) :
    ev (R (n + 3)) (.cmp .eq (.call 16 [(.idx (.var i2) (.cst (.int 1))), (.call 17 [(.var i), (.var i1), (.idx (.var i2) (.cst (.int 0)))])]) (.lst 0 [])) env = .ok (.fz (.bl (due cols rules rule))) env := by
  have hr := reach_def (n := n + 1) (left := rule.1) T.gc.ok T.gc.len T.w T.s20
  have l1 := lacks_eq (n := n + 2) (Sq_s1 (r := rule.2)) (.p : Sq (.pn 1 (clD (reach cols rules rule.1))) (sts (reach cols rules rule.1))) (by have := g2.len; simp; omega)
  have d1 := deq_snil (xs := lacks rule.2 (reach cols rules rule.1)) fun x hx => T.gc.ok x (g2.sub x (mem_lacks.1 hx).1)
  simp [h1, h2, h3, hr, l1, d1, due_dec]
def DvI (cols : List Str) (rules : List (Rule Str)) (rule : Rule Str) (row : List Int) (p' : Int) (du : Bool) (v8 : SV) (q : List (List Int)) (e : Mi.Env) : Prop := ∃ b v9 v10, fr v9 = true ∧ fr v10 = true ∧ e = [.pn 1 (stD row p'), .fz (clD cols), .fz (rsD rules), .fz (rl rule), .fz (.bl du), .ow 1 (clD cols), .ow 1 (rsD rules), .fz (.bl b), v8, v9, v10]
theorem derived_eq {n : Nat} {row : List Int} {p : Int} {cols : List Str} {rules : List (Rule Str)} {rule : Rule Str} (hp : 0 ≤ p) (T : St cols rules) (g1 : L20 cols rule.1) (g2 : L20 cols rule.2) :
    ∃ p', R (n + 4) 26 [.pn 1 (stD row p), .fz (clD cols), .fz (rsD rules), .fz (rl rule)] = .ok (.fz (.bl true)) [.pn 1 (stD row p'), .fz (clD cols), .fz (rsD rules), .fz (rl rule)] ∧ 0 ≤ p' := by
  have hdu := ev_due (n := n) T g1 g2 1 2 3 [.pn 1 (stD row p), .fz (clD cols), .fz (rsD rules), .fz (rl rule), .un, .un, .un, .un, .un, .un, .un] rfl rfl rfl
  have sc : Sq (.pn 1 (clD cols)) (sts cols) := .p
  have sr : Sq (.pn 1 (rsD rules)) (rules.map rl) := .p
  have hf := follows_eq (n := n) T.gd sc sr g1.lf g2.lf
  have hdv := derivation_eq (n := n) T.gd sc sr g1.lf g2.lf
  have hno := is_der_none (n := n) T.gd sc sr g1.lf g2.lf
  have q2 := deq_cl T.gc.ok
  have q3 := deq_rs T.gc.ok T.w
  obtain ⟨ws, hws, hwl⟩ := walk_eq (n := n + 1) (left := rule.1) T.gc.ok T.w T.s20 g1.len
  obtain ⟨pps, p', hpp, hpl, hp'⟩ := papers_eq (n := n + 1) (row := row) (m := rules.length) hp hwl
  refine ⟨p', ?_, hp'⟩
  refine eq_def rfl rfl ?_
  show wp (exc _ _ f_law_derived.body [.pn 1 (stD row p), .fz (clD cols), .fz (rsD rules), .fz (rl rule), .un, .un, .un, .un, .un, .un, .un]) _ _
  unfold f_law_derived
  generalize hdd : due cols rules rule = du at hdu hf hdv
  refine wp_step (e' := [.pn 1 (stD row p), .fz (clD cols), .fz (rsD rules), .fz (rl rule), .fz (.bl du), .un, .un, .un, .un, .un, .un]) (by rw [exc_set, hdu]; simp) ?_
  refine wp_step (e' := [.pn 1 (stD row p), .fz (clD cols), .fz (rsD rules), .fz (rl rule), .fz (.bl du), .ow 1 (clD cols), .un, .un, .un, .un, .un]) (by simp) ?_
  refine wp_step (e' := [.pn 1 (stD row p), .fz (clD cols), .fz (rsD rules), .fz (rl rule), .fz (.bl du), .ow 1 (clD cols), .ow 1 (rsD rules), .un, .un, .un, .un]) (by simp) ?_
  refine wp_step (e' := [.pn 1 (stD row p), .fz (clD cols), .fz (rsD rules), .fz (rl rule), .fz (.bl du), .ow 1 (clD cols), .ow 1 (rsD rules), .fz (.bl du), .un, .un, .un]) (by simp [hf]) ?_
  refine wp_step_ifs (e' := [.pn 1 (stD row p), .fz (clD cols), .fz (rsD rules), .fz (rl rule), .fz (.bl du), .ow 1 (clD cols), .ow 1 (rsD rules), .fz (.bl du), .un, .un, .un]) (by simp) rfl ?_
  rw [wp_seq]
  refine wp_for (xs := List.range 2) (g := fun (k : Nat) => D.int (k : Int)) (lk := none) (e1 := [.pn 1 (stD row p), .fz (clD cols), .fz (rsD rules), .fz (rl rule), .fz (.bl du), .ow 1 (clD cols), .ow 1 (rsD rules), .fz (.bl du), .un, .un, .un]) (evi_rng (by simp) (by omega)) (fun q e => ∃ v8 v9, fr v8 = true ∧ fr v9 = true ∧ e = [.pn 1 (stD row p), .fz (clD cols), .fz (rsD rules), .fz (rl rule), .fz (.bl du), .ow 1 (clD cols), .ow 1 (rsD rules), .fz (.bl du), v8, v9, .un]) ?_ ?_ ?_
  · exact ⟨_, _, rfl, rfl, rfl⟩
  · rintro q k q' e hx ⟨v8, v9, f8, f9, rfl⟩
    refine ⟨rfl, [.pn 1 (stD row p), .fz (clD cols), .fz (rsD rules), .fz (rl rule), .fz (.bl du), .ow 1 (clD cols), .ow 1 (rsD rules), .fz (.bl du), .fz (.int k), v9, .un], by simp [f8], ?_⟩
    rcases hdv with ⟨hd0, hdv⟩ | ⟨hd1, u, hdv, hder, hul⟩
    · subst hd0
      simp [hdv, f9, D.toV, D.flat]
    · subst hd1
      rw [usD_eq] at hdv
      have hpa := is_paper_eq T.gc.ok T.w T.s20 ⟨g1.sub, g1.len⟩ ⟨g2.sub, g2.len⟩ (n := n) (ps := nzs u) (sp := .pn 1 (.lst ((nzs u).map D.int))) .p (fun ⟨_, h⟩ => by cases h) (by simp [nzs]; omega)
      have hid := is_der_eq (n := n) T.gd sc sr g1.lf g2.lf (ps := nzs u) (sp := .pn 1 (.lst ((nzs u).map D.int))) .p
      rw [isDer_eq, hder] at hid
      rw [hder] at hpa
      have c1 : (nzs u).length < 16777216 := by simp [nzs]; omega
      simp [hdv, f9, hpa, hid, c1]
  · rintro e ⟨v8, v9, f8, f9, rfl⟩
    refine ⟨rfl, ?_⟩
    simp only [unlock_none]
    rw [wp_seq]
    refine wp_for (xs := pps) (g := fun p => D.lst (p.map D.int)) (lk := none) (e1 := [.pn 1 (stD row p'), .fz (clD cols), .fz (rsD rules), .fz (rl rule), .fz (.bl du), .ow 1 (clD cols), .ow 1 (rsD rules), .fz (.bl du), v8, v9, .un]) (by simp [hws, hpp]) (DvI cols rules rule row p' du v8) ?_ ?_ ?_
    · exact ⟨_, _, _, f9, rfl, rfl⟩
    · rintro q ps q' e hx ⟨b, v9, v10, f9, f10, rfl⟩
      have hpsl := hpl ps (by rw [hx]; simp)
      refine ⟨rfl, [.pn 1 (stD row p'), .fz (clD cols), .fz (rsD rules), .fz (rl rule), .fz (.bl du), .ow 1 (clD cols), .ow 1 (rsD rules), .fz (.bl b), v8, .fz (.lst (ps.map D.int)), v10], by simp [f9], ?_⟩
      have hid := is_der_eq (n := n) T.gd sc sr g1.lf g2.lf (ps := ps) (sp := .pn 1 (.lst (ps.map D.int))) .p
      have hdr := derives_eq T.gc.ok T.w T.s20 ⟨g1.sub, g1.len⟩ ⟨g2.sub, g2.len⟩ (n := n + 1) (ps := ps) (sp := .fz (.lst (ps.map D.int))) .l (by omega)
      rw [isDer_eq] at hid
      simp [hid, hdr, f10, deq_il]
      exact ⟨derives rules rule ps, _, _, rfl, rfl, rfl⟩
    · rintro e ⟨b, v9, v10, f9, f10, rfl⟩
      refine ⟨rfl, ?_⟩
      simp [hno, q2, q3]
end K81
end
section
set_option Elab.async false
set_option linter.all false
set_option maxRecDepth 100000
set_option maxHeartbeats 1000000
namespace K81
open PySem L2 Mi Mi.Px Pm
theorem cell_map {cols : List Str} {c : Str} (φ : Str → Str) (h : c ∈ cols) : cell cols (cols.map φ) c = φ c := by
  unfold cell
  rw [List.getElem?_map, List.getElem?_eq_getElem (List.idxOf_lt_length_of_mem h)]
  simp
theorem fk_map {cols l : List Str} (φ : Str → Str) (h : ∀ c ∈ l, c ∈ cols) : fk cols l (cols.map φ) = l.map φ := by
  unfold fk
  exact List.map_congr_left fun c hc => cell_map φ (h c hc)
theorem okS_a : okS "a" = true := by decide +kernel
theorem okS_b : okS "b" = true := by decide +kernel
theorem a_ne_b : ("a" : Str) ≠ ("b" : Str) := by decide +kernel
theorem parted_eq {n : Nat} {cols : List Str} {rules : List (Rule Str)} {rule : Rule Str} (T : St cols rules) (g1 : L20 cols rule.1) (g2 : L20 cols rule.2) :
    R (n + 4) 27 [.fz (clD cols), .fz (rsD rules), .fz (rl rule)] = .ok (.fz (.bl true)) [.fz (clD cols), .fz (rsD rules), .fz (rl rule)] := by
  have hdu := ev_due (n := n) T g1 g2 0 1 2 [.fz (clD cols), .fz (rsD rules), .fz (rl rule), .un, .un, .un, .un, .un, .un] rfl rfl rfl
  have sc : Sq (.pn 1 (clD cols)) (sts cols) := .p
  have sr : Sq (.pn 1 (rsD rules)) (rules.map rl) := .p
  have htw := two_rows_eq (n := n) T.gd sc sr g1.lf g2.lf
  have q2 := deq_cl T.gc.ok
  have q3 := deq_rs T.gc.ok T.w
  refine eq_def rfl rfl ?_
  show wp (exc _ _ f_law_parted.body [.fz (clD cols), .fz (rsD rules), .fz (rl rule), .un, .un, .un, .un, .un, .un]) _ _
  unfold f_law_parted
  have hdi := due_iff (rule := rule) T.gd g1.lf
  generalize hdd : due cols rules rule = du at hdu htw hdi
  refine wp_step (e' := [.fz (clD cols), .fz (rsD rules), .fz (rl rule), .fz (.bl du), .un, .un, .un, .un, .un]) (by rw [exc_set, hdu]; simp) ?_
  refine wp_step (e' := [.fz (clD cols), .fz (rsD rules), .fz (rl rule), .fz (.bl du), .ow 1 (clD cols), .un, .un, .un, .un]) (by simp) ?_
  refine wp_step (e' := [.fz (clD cols), .fz (rsD rules), .fz (rl rule), .fz (.bl du), .ow 1 (clD cols), .ow 1 (rsD rules), .un, .un, .un]) (by simp) ?_
  rw [wp_seq]
  refine wp_for (xs := List.range 2) (g := fun (k : Nat) => D.int (k : Int)) (lk := none) (e1 := [.fz (clD cols), .fz (rsD rules), .fz (rl rule), .fz (.bl du), .ow 1 (clD cols), .ow 1 (rsD rules), .un, .un, .un]) (evi_rng (by simp) (by omega)) (fun q e => ∃ v6 v7 v8, fr v6 = true ∧ fr v7 = true ∧ fr v8 = true ∧ e = [.fz (clD cols), .fz (rsD rules), .fz (rl rule), .fz (.bl du), .ow 1 (clD cols), .ow 1 (rsD rules), v6, v7, v8]) ?_ ?_ ?_
  · exact ⟨_, _, _, rfl, rfl, rfl, rfl⟩
  · rintro q j q' e hx ⟨v6, v7, v8, f6, f7, f8, rfl⟩
    refine ⟨rfl, [.fz (clD cols), .fz (rsD rules), .fz (rl rule), .fz (.bl du), .ow 1 (clD cols), .ow 1 (rsD rules), .fz (.int j), v7, v8], by simp [f6], ?_⟩
    rcases htw with ⟨hd1, htw⟩ | ⟨hd0, k, hk, htw⟩
    · subst hd1
      simp [htw, f7, D.toV, D.flat]
      exact ⟨_, rfl, _, rfl, v8, f8, rfl, rfl, rfl⟩
    · subst hd0
      generalize hA : (cols.map fun _ => ("a" : Str)) = A at htw
      generalize hB : (cols.map fun c => if c ∈ k then ("a" : Str) else ("b" : Str)) = B at htw
      have hAl : A.length = cols.length := by rw [← hA]; simp
      have hBl : B.length = cols.length := by rw [← hB]; simp
      have hA2 : ∀ x ∈ A, x = ("a" : Str) ∨ x = ("b" : Str) := by
        rw [← hA]; intro x hx; simp only [List.mem_map] at hx; obtain ⟨_, _, rfl⟩ := hx; exact .inl rfl
      have hB2 : ∀ x ∈ B, x = ("a" : Str) ∨ x = ("b" : Str) := by
        rw [← hB]; intro x hx; simp only [List.mem_map] at hx; obtain ⟨c, _, rfl⟩ := hx; by_cases h : c ∈ k <;> simp [h]
      have hokAB : ∀ x : Str, x = ("a" : Str) ∨ x = ("b" : Str) → okS x = true := by
        rintro x (rfl | rfl)
        · exact okS_a
        · exact okS_b
      have W : Rw cols [A, B] := by
        intro r hr
        simp only [List.mem_cons, List.not_mem_nil, or_false] at hr
        rcases hr with rfl | rfl
        · exact ⟨hAl, fun x hx => hokAB x (hA2 x hx)⟩
        · exact ⟨hBl, fun x hx => hokAB x (hB2 x hx)⟩
      have fA : ∀ l : List Str, (∀ c ∈ l, c ∈ cols) → fk cols l A = l.map fun _ => ("a" : Str) := fun l h => by rw [← hA]; exact fk_map _ h
      have fB : ∀ l : List Str, (∀ c ∈ l, c ∈ cols) → fk cols l B = l.map fun c => if c ∈ k then ("a" : Str) else ("b" : Str) := fun l h => by rw [← hB]; exact fk_map _ h
      have eqAB : ∀ l : List Str, (∀ c ∈ l, c ∈ cols) → (fk cols l A = fk cols l B ↔ ∀ c ∈ l, c ∈ k) := by
        intro l h
        rw [fA l h, fB l h, List.map_inj_left]
        refine forall_congr' fun c => forall_congr' fun _ => ?_
        by_cases hc : c ∈ k
        · simp [hc]
        · simp [hc, a_ne_b]
      have kr : kept cols [A, B] rule = false := by
        unfold kept
        rw [decide_eq_false_iff_not]
        intro h
        have h1 : fk cols rule.1 A = fk cols rule.1 B := (eqAB rule.1 g1.sub).2 fun c hc => (hk c).2 (.base hc)
        have h2 := (eqAB rule.2 g2.sub).1 (h A (by simp) B (by simp) h1)
        exact absurd (hdi.2 fun c hc => (hk c).1 (h2 c hc)) (by simp)
      have ko : ∀ r ∈ rules, kept cols [A, B] r = true := by
        intro r hr
        have hw1 := (T.w r hr).1
        have hw2 := (T.w r hr).2
        have key : fk cols r.1 A = fk cols r.1 B → fk cols r.2 A = fk cols r.2 B := fun h => (eqAB r.2 hw2).2 fun d hd => (hk d).2 (.step hr (fun c hc => (hk c).1 ((eqAB r.1 hw1).1 h c hc)) hd)
        unfold kept
        rw [decide_eq_true_eq]
        intro x hx y hy hxy
        simp only [List.mem_cons, List.not_mem_nil, or_false] at hx hy
        rcases hx with rfl | rfl <;> rcases hy with rfl | rfl
        · rfl
        · exact key hxy
        · exact (key hxy.symm).symm
        · rfl
      have i2 := is_two_eq (n := n + 2) hAl hBl hA2 hB2
      have k1 := kept_def (n := n + 2) (rule := rule) (sr := .pn 1 (.lst [rowD A, rowD B])) (.p : Sq _ ([A, B].map rowD)) W g1 g2
      rw [kr] at k1
      have kp := keeps_eq (n := n) (rows := [A, B]) (rule := rule) T.gc.nd (by have := T.gc.len; omega) sc (.p : Sq (.pn 1 (.lst [rowD A, rowD B])) ([A, B].map rowD)) (by simp) g1.lf g2.lf W
      rw [kr] at kp
      have hrA : D.tup (A.map D.str) = rowD A := rfl
      have hrB : D.tup (B.map D.str) = rowD B := rfl
      rw [hrA, hrB] at htw
      simp [htw, f7, i2, k1]
      refine wp_for (xs := rules) (g := rl) (lk := none) (e1 := [.fz (clD cols), .fz (rsD rules), .fz (rl rule), .fz (.bl false), .ow 1 (clD cols), .ow 1 (rsD rules), .fz (.int j), .ow 1 (.lst [rowD A, rowD B]), v8]) (by simp) (fun p e => ∃ v8, fr v8 = true ∧ e = [.fz (clD cols), .fz (rsD rules), .fz (rl rule), .fz (.bl false), .ow 1 (clD cols), .ow 1 (rsD rules), .fz (.int j), .ow 1 (.lst [rowD A, rowD B]), v8]) ?_ ?_ ?_
      · exact ⟨_, f8, rfl⟩
      · rintro p r p' e hy ⟨v8, f8, rfl⟩
        have hrm : r ∈ rules := by rw [hy]; simp
        have hrr := Gr.of (T.rr r hrm)
        have k2 := kept_def (n := n + 2) (rule := r) (sr := .pn 1 (.lst [rowD A, rowD B])) (.p : Sq _ ([A, B].map rowD)) W hrr.1 hrr.2
        rw [ko r hrm] at k2
        refine ⟨rfl, [.fz (clD cols), .fz (rsD rules), .fz (rl rule), .fz (.bl false), .ow 1 (clD cols), .ow 1 (rsD rules), .fz (.int j), .ow 1 (.lst [rowD A, rowD B]), .fz (rl r)], by simp [f8], ?_⟩
        simp [k2]
      · rintro e ⟨v8, f8, rfl⟩
        refine ⟨rfl, ?_⟩
        simp [kp]
        exact ⟨_, rfl, _, rfl, _, f8, rfl, rfl, rfl⟩
  · rintro e ⟨v6, v7, v8, f6, f7, f8, rfl⟩
    simp [q2, q3]
end K81
end
section
set_option Elab.async false
set_option linter.all false
set_option maxRecDepth 100000
set_option maxHeartbeats 1000000
namespace K81
open PySem L2 Mi Mi.Px Pm
theorem okS_nm {a : Int} {k : Nat} (h0 : 0 ≤ a) (h : a < 100) (hk : k < 12) : okS (nm a k) = true := by
  have := (names_fin ⟨a.toNat, by omega⟩).2 (nm a k) ?_
  · exact this.1
  · have e : ((⟨a.toNat, by omega⟩ : Fin 100) : Int) = a := by simp; omega
    rw [e]
    exact List.mem_map_of_mem (List.mem_range.2 hk)
theorem didx_mem3 {pool : List Str} {i : Int} (hl : pool.length = 3) (h0 : 0 ≤ i) (h : i < 3) : ∃ x ∈ pool, didx (.lst (pool.map D.str)) (.int i) = some (.str x) := didx_mem h0 (by omega)
abbrev rwD (rows : List (List Str)) : D := .lst (rows.map rowD)
theorem deq_rw {cols : List Str} {rows : List (List Str)} (W : Rw cols rows) : deq (.lst (rows.map rowD)) (.lst (rows.map rowD)) = some true := by
  refine deq_refl (n := 2) ?_ (by omega)
  simp only [okd]
  rw [okds_all]
  intro d hd
  simp only [List.mem_map] at hd
  obtain ⟨r, hr, rfl⟩ := hd
  simp only [rowD, okd]
  exact okds_strs (W r hr).2
theorem kept_nil {cols : List Str} {rule : Rule Str} : kept cols [] rule = true := by
  unfold kept; rw [decide_eq_true_eq]; intro r hr; cases hr
theorem kept_one {cols r : List Str} {rule : Rule Str} : kept cols [r] rule = true := by
  unfold kept; rw [decide_eq_true_eq]
  intro x hx y hy _
  rw [List.mem_singleton.1 hx, List.mem_singleton.1 hy]
theorem tables_eq {n : Nat} {row : List Int} {p : Int} {cols : List Str} {rules asked : List (Rule Str)} (hp : 0 ≤ p) (T : St cols rules) (ha : ∀ r ∈ asked, Gr cols r) (hne : asked ≠ []) (hal : asked.length ≤ 4) :
    ∃ p', R (n + 4) 28 [.pn 1 (stD row p), .fz (clD cols), .fz (rsD rules), .fz (rsD asked)] = .ok (.fz (.bl true)) [.pn 1 (stD row p'), .fz (clD cols), .fz (rsD rules), .fz (rsD asked)] ∧ 0 ≤ p' := by
  obtain ⟨a, p1, h1, ha0, ha1, hp1⟩ := new_names_eq (n := n + 1) (row := row) (j := 2) hp (by omega)
  have hcl := T.gc.len
  suffices key : ∀ Q : RV → List SV → Prop, (∀ p', 0 ≤ p' → Q (.fz (.bl true)) [.pn 1 (stD row p'), .fz (clD cols), .fz (rsD rules), .fz (rsD asked)]) → ∃ r ts, R (n + 4) 28 [.pn 1 (stD row p), .fz (clD cols), .fz (rsD rules), .fz (rsD asked)] = .ok r ts ∧ Q r ts by
    obtain ⟨r, ts, h, p', rfl, rfl, hz⟩ := key (fun r ts => ∃ p' : Int, r = .fz (.bl true) ∧ ts = [.pn 1 (stD row p'), .fz (clD cols), .fz (rsD rules), .fz (rsD asked)] ∧ 0 ≤ p') (fun p' a => ⟨p', rfl, rfl, a⟩)
    exact ⟨p', h, hz⟩
  intro Q hQ
  obtain ⟨many, p2, h2, hm0, hm1, hp2⟩ := take_eq (n := n + 2) (row := row) (many := 7) (by omega) hp1
  obtain ⟨j, rfl⟩ : ∃ j : Nat, many = j := ⟨many.toNat, by omega⟩
  have hposA : 0 < asked.length := by cases asked with | nil => exact absurd rfl hne | cons _ _ => simp
  obtain ⟨a0, as, hasked⟩ : ∃ a0 as, asked = a0 :: as := by cases asked with | nil => exact absurd rfl hne | cons x y => exact ⟨x, y, rfl⟩
  have ha0m : Gr cols a0 := ha a0 (by rw [hasked]; simp)
  generalize hpool : (("" : Str) :: [nm a 0, nm a 1]) = pool
  have hpl : pool.length = 3 := by rw [← hpool]; rfl
  have hpok : ∀ x ∈ pool, okS x = true := by
    rw [← hpool]; intro x hx
    simp only [List.mem_cons, List.not_mem_nil, or_false] at hx
    rcases hx with rfl | rfl | rfl
    · exact okS_nil
    · exact okS_nm ha0 ha1 (by omega)
    · exact okS_nm ha0 ha1 (by omega)
  refine gives_def rfl rfl ?_
  show wp (exc _ _ f_law_tables.body [.pn 1 (stD row p), .fz (clD cols), .fz (rsD rules), .fz (rsD asked), .un, .un, .un, .un, .un, .un, .un, .un, .un, .un, .un]) _ _
  unfold f_law_tables
  refine wp_step (e' := [.pn 1 (stD row p1), .fz (clD cols), .fz (rsD rules), .fz (rsD asked), .ow 1 (.lst (pool.map D.str)), .un, .un, .un, .un, .un, .un, .un, .un, .un, .un]) (by
    have e : (List.range 2).map (nm a) = [nm a 0, nm a 1] := rfl
    rw [e] at h1
    simp at h1
    rw [← hpool]
    simp [h1]) ?_
  refine wp_step (e' := [.pn 1 (stD row p1), .fz (clD cols), .fz (rsD rules), .fz (rsD asked), .ow 1 (.lst (pool.map D.str)), .ow 1 (rwD []), .un, .un, .un, .un, .un, .un, .un, .un, .un]) (by simp [rwD]) ?_
  rw [wp_seq]
  have hs : evi (R (n + 3)) (.rng1 (.call 11 [(.var 0), (.cst (.int 7))])) [.pn 1 (stD row p1), .fz (clD cols), .fz (rsD rules), .fz (rsD asked), .ow 1 (.lst (pool.map D.str)), .ow 1 (rwD []), .un, .un, .un, .un, .un, .un, .un, .un, .un] = .ok ((List.range j).map fun (k : Nat) => D.int (k : Int), none) [.pn 1 (stD row p2), .fz (clD cols), .fz (rsD rules), .fz (rsD asked), .ow 1 (.lst (pool.map D.str)), .ow 1 (rwD []), .un, .un, .un, .un, .un, .un, .un, .un, .un] := by
    rw [evi_rng1]
    have : ev (R (n + 3)) (.call 11 [(.var 0), (.cst (.int 7))]) [.pn 1 (stD row p1), .fz (clD cols), .fz (rsD rules), .fz (rsD asked), .ow 1 (.lst (pool.map D.str)), .ow 1 (rwD []), .un, .un, .un, .un, .un, .un, .un, .un, .un] = .ok (.fz (.int j)) [.pn 1 (stD row p2), .fz (clD cols), .fz (rsD rules), .fz (rsD asked), .ow 1 (.lst (pool.map D.str)), .ow 1 (rwD []), .un, .un, .un, .un, .un, .un, .un, .un, .un] := by simp [h2]
    rw [this, Rs.bind_ok]
    simp only [sm62 (j := j) (by omega), if_true, rng_map]
  refine wp_for hs (fun q e => ∃ (rows : List (List Str)) (p' : Int) (v6 : SV), Rw cols rows ∧ rows.length ≤ q.length ∧ 0 ≤ p' ∧ fr v6 = true ∧ e = [.pn 1 (stD row p'), .fz (clD cols), .fz (rsD rules), .fz (rsD asked), .ow 1 (.lst (pool.map D.str)), .ow 1 (rwD rows), v6, .un, .un, .un, .un, .un, .un, .un, .un]) ?_ ?_ ?_
  · exact ⟨[], p2, _, fun r hr => (by cases hr), by simp, hp2, rfl, rfl⟩
  · rintro q k q' e hx ⟨rows, p', v6, hrw, hrl, hp', f6, rfl⟩
    have hk := range_mem hx
    have hq := range_pos hx
    refine ⟨rfl, [.pn 1 (stD row p'), .fz (clD cols), .fz (rsD rules), .fz (rsD asked), .ow 1 (.lst (pool.map D.str)), .ow 1 (rwD rows), .fz (.int k), .un, .un, .un, .un, .un, .un, .un, .un], by simp [f6], ?_⟩
    obtain ⟨dsl, en, ⟨us, p3, hus, hok, hp3, hdsl, hen⟩, hev⟩ := ev_lcpp (Φ := R (n + 3)) (nm := "one") (j := 14) (src := .seq (.var 1)) (c := none) (e := .idx (.var 4) (.call 11 [(.var 0), (.cst (.int 3))])) (xs := cols) (g := D.str) (lk := none) (e1 := [.pn 1 (stD row p'), .fz (clD cols), .fz (rsD rules), .fz (rsD asked), .ow 1 (.lst (pool.map D.str)), .ow 1 (rwD rows), .fz (.int k), .un, .un, .un, .un, .un, .un, .un, .un]) (env := [.pn 1 (stD row p'), .fz (clD cols), .fz (rsD rules), .fz (rsD asked), .ow 1 (.lst (pool.map D.str)), .ow 1 (rwD rows), .fz (.int k), .un, .un, .un, .un, .un, .un, .un, .un]) (by simp) (by simp) (by simp; omega)
      (fun pre acc en => ∃ (us : List Str) (p3 : Int), us.length = pre.length ∧ (∀ x ∈ us, okS x = true) ∧ 0 ≤ p3 ∧ acc = us.map D.str ∧ en = [.pn 1 (stD row p3), .fz (clD cols), .fz (rsD rules), .fz (rsD asked), .ow 1 (.lst (pool.map D.str)), .ow 1 (rwD rows), .fz (.int k), .un, .un, .un, .un, .un, .un, .un, .un]) ⟨[], p', rfl, by simp, hp', rfl, by simp⟩
      (fun x hx pre acc en hI => by
        obtain ⟨us, p3, hl, hok, hp3, rfl, rfl⟩ := hI
        obtain ⟨v, p4, g, hv0, hv1, hp4⟩ := take_eq (n := n + 2) (row := row) (many := 3) (by omega) hp3
        obtain ⟨y, hy, hyd⟩ := didx_mem3 hpl hv0 hv1
        refine ⟨[.pn 1 (stD row p3), .fz (clD cols), .fz (rsD rules), .fz (rsD asked), .ow 1 (.lst (pool.map D.str)), .ow 1 (rwD rows), .fz (.int k), .un, .un, .un, .un, .un, .un, .un, .fz (.str x)], by simp, ?_⟩
        have e : turn1 (R (n + 3)) none (.idx (.var 4) (.call 11 [(.var 0), (.cst (.int 3))])) [.pn 1 (stD row p3), .fz (clD cols), .fz (rsD rules), .fz (rsD asked), .ow 1 (.lst (pool.map D.str)), .ow 1 (rwD rows), .fz (.int k), .un, .un, .un, .un, .un, .un, .un, .fz (.str x)] = .ok (some (.str y)) [.pn 1 (stD row p4), .fz (clD cols), .fz (rsD rules), .fz (rsD asked), .ow 1 (.lst (pool.map D.str)), .ow 1 (rwD rows), .fz (.int k), .un, .un, .un, .un, .un, .un, .un, .fz (.str x)] := by simp [g, hyd]
        rw [e, wp_ok]
        exact ⟨us ++ [y], p4, by simp [hl], snoc_all hok (hpok y hy), hp4, by simp, by simp⟩)
      (fun pre acc en hI => rfl)
    have hen7 : unlockE none (undo [.pn 1 (stD row p'), .fz (clD cols), .fz (rsD rules), .fz (rsD asked), .ow 1 (.lst (pool.map D.str)), .ow 1 (rwD rows), .fz (.int k), .un, .un, .un, .un, .un, .un, .un, .un] en [14]) = [.pn 1 (stD row p3), .fz (clD cols), .fz (rsD rules), .fz (rsD asked), .ow 1 (.lst (pool.map D.str)), .ow 1 (rwD rows), .fz (.int k), .un, .un, .un, .un, .un, .un, .un, .un] := by
      simpa using hen
    rw [hen7] at hev
    subst hdsl
    have c1 : rows.length < 16777216 := by omega
    simp [hev, c1]
    exact ⟨rows ++ [us], snoc_all hrw ⟨hus, hok⟩, by simp; omega, p3, hp3, .fz (.int k), rfl, by simp [rowD]⟩
  · rintro e ⟨rows, p', v6, hrw, hrl, hp', f6, rfl⟩
    refine ⟨rfl, ?_⟩
    simp only [unlock_none]
    have hrl' : rows.length ≤ 7 := by simp at hrl; omega
    obtain ⟨i, p4, h4, hi0, hi1, hp4⟩ := take_eq (n := n + 2) (row := row) (many := asked.length) (by omega) hp'
    obtain ⟨r7, hr7, hd7⟩ := didx_rule_mem hi0 hi1
    have hre := reach_def (n := n + 1) (left := r7.1) T.gc.ok T.gc.len T.w T.s20
    generalize hkn : reach cols rules r7.1 = known at hre
    have hfin := hQ p4 hp4
    generalize hP1 : nm a 0 = P1 at hpool
    generalize hP2 : nm a 1 = P2 at hpool
    have hk1 : okS P1 = true := by rw [← hP1]; exact okS_nm ha0 ha1 (by omega)
    have hk2 : okS P2 = true := by rw [← hP2]; exact okS_nm ha0 ha1 (by omega)
    have hpD : pool.map D.str = [D.str "", D.str P1, D.str P2] := by rw [← hpool]; rfl
    have dp1 : didx (.lst [D.str "", D.str P1, D.str P2]) (.int 1) = some (.str P1) := didx_l1
    have dp2 : didx (.lst [D.str "", D.str P1, D.str P2]) (.int 2) = some (.str P2) := (atI_nat (xs := [D.str "", D.str P1, D.str P2]) (i := 2) (by simp)).trans rfl
    rw [hpD]
    generalize hpo : D.lst [D.str "", D.str P1, D.str P2] = PO at dp1 dp2
    have hfl : flatter 1 PO = some PO := by rw [← hpo]; rfl
    refine wp_step (e' := [.pn 1 (stD row p4), .fz (clD cols), .fz (rsD rules), .fz (rsD asked), .ow 1 PO, .ow 1 (rwD rows), v6, .fz (.tup (r7.1.map D.str)), .un, .un, .un, .un, .un, .un, .un]) (by simp [h4, hd7]) ?_
    refine wp_step (e' := [.pn 1 (stD row p4), .fz (clD cols), .fz (rsD rules), .fz (rsD asked), .ow 1 PO, .ow 1 (rwD rows), v6, .fz (.tup (r7.1.map D.str)), .ow 1 (clD known), .un, .un, .un, .un, .un, .un]) (by simp [hre]) ?_
    have h9 : ev (R (n + 3)) (.lcp [("one", 14)] (.nm 14) (.seq (.var 1)) none (.idx (.var 4) (.cst (.int 1)))) [.pn 1 (stD row p4), .fz (clD cols), .fz (rsD rules), .fz (rsD asked), .ow 1 PO, .ow 1 (rwD rows), v6, .fz (.tup (r7.1.map D.str)), .ow 1 (clD known), .un, .un, .un, .un, .un, .un] = .ok (.ow 1 (.lst (cols.filterMap fun x => some (D.str P1)))) [.pn 1 (stD row p4), .fz (clD cols), .fz (rsD rules), .fz (rsD asked), .ow 1 PO, .ow 1 (rwD rows), v6, .fz (.tup (r7.1.map D.str)), .ow 1 (clD known), .un, .un, .un, .un, .un, .un] := by
      refine ev_lcp0 (xs := cols) (g := D.str) _ (e1 := [.pn 1 (stD row p4), .fz (clD cols), .fz (rsD rules), .fz (rsD asked), .ow 1 PO, .ow 1 (rwD rows), v6, .fz (.tup (r7.1.map D.str)), .ow 1 (clD known), .un, .un, .un, .un, .un, .un]) (lk := none) (by simp) (by simp) (by simp; omega) (fun _ _ h => by cases h) (fun c hc => ?_)
      simp [hfl, dp1]
    generalize hT1 : (cols.map fun _ => P1) = t1
    generalize hT2 : (cols.map fun c => if c ∈ known then P1 else P2) = t2
    have e9 : (cols.filterMap fun x => some (D.str P1)) = t1.map D.str := by rw [← hT1]; simp
    rw [e9] at h9
    have hw1 : t1.length = cols.length ∧ ∀ x ∈ t1, okS x = true := by
      rw [← hT1]; exact ⟨by simp, fun x hx => by simp only [List.mem_map] at hx; obtain ⟨_, _, rfl⟩ := hx; exact hk1⟩
    have hw2 : t2.length = cols.length ∧ ∀ x ∈ t2, okS x = true := by
      rw [← hT2]; exact ⟨by simp, fun x hx => by simp only [List.mem_map] at hx; obtain ⟨c, _, rfl⟩ := hx; split <;> assumption⟩
    refine wp_step (e' := [.pn 1 (stD row p4), .fz (clD cols), .fz (rsD rules), .fz (rsD asked), .ow 1 PO, .ow 1 (rwD rows), v6, .fz (.tup (r7.1.map D.str)), .ow 1 (clD known), .ow 1 (rwD [t1]), .un, .un, .un, .un, .un]) (by simp [h9, rowD]) ?_
    have h10 : ev (R (n + 3)) (.lcp [("one", 14)] (.nm 14) (.seq (.var 1)) none (.idx (.var 4) (.bin .add (.cst (.int 1)) (.blt .int [(.cmp .notin (.var 14) (.var 8))])))) [.pn 1 (stD row p4), .fz (clD cols), .fz (rsD rules), .fz (rsD asked), .ow 1 PO, .ow 1 (rwD rows), v6, .fz (.tup (r7.1.map D.str)), .ow 1 (clD known), .ow 1 (rwD [t1]), .un, .un, .un, .un, .un] = .ok (.ow 1 (.lst (cols.filterMap fun x => some (D.str (if x ∈ known then P1 else P2))))) [.pn 1 (stD row p4), .fz (clD cols), .fz (rsD rules), .fz (rsD asked), .ow 1 PO, .ow 1 (rwD rows), v6, .fz (.tup (r7.1.map D.str)), .ow 1 (clD known), .ow 1 (rwD [t1]), .un, .un, .un, .un, .un] := by
      refine ev_lcp0 (xs := cols) (g := D.str) _ (e1 := [.pn 1 (stD row p4), .fz (clD cols), .fz (rsD rules), .fz (rsD asked), .ow 1 PO, .ow 1 (rwD rows), v6, .fz (.tup (r7.1.map D.str)), .ow 1 (clD known), .ow 1 (rwD [t1]), .un, .un, .un, .un, .un]) (lk := none) (by simp) (by simp) (by simp; omega) (fun _ _ h => by cases h) (fun c hc => ?_)
      by_cases hc : c ∈ known <;> simp [hfl, dp1, dp2, hc]
    have e10 : (cols.filterMap fun x => some (D.str (if x ∈ known then P1 else P2))) = t2.map D.str := by rw [← hT2]; simp
    rw [e10] at h10
    refine wp_step (e' := [.pn 1 (stD row p4), .fz (clD cols), .fz (rsD rules), .fz (rsD asked), .ow 1 PO, .ow 1 (rwD rows), v6, .fz (.tup (r7.1.map D.str)), .ow 1 (clD known), .ow 1 (rwD [t1, t2]), .un, .un, .un, .un, .un]) (by simp [h10, rowD]) ?_
    have hwT : Rw cols [t1, t2] := by
      intro r hr
      simp only [List.mem_cons, List.not_mem_nil, or_false] at hr
      rcases hr with rfl | rfl
      · exact hw1
      · exact hw2
    rw [wp_seq]
    refine wp_for (xs := [rows, [t1, t2]]) (g := rwD) (lk := none) (e1 := [.pn 1 (stD row p4), .fz (clD cols), .fz (rsD rules), .fz (rsD asked), .ow 1 PO, .fz (rwD rows), v6, .fz (.tup (r7.1.map D.str)), .ow 1 (clD known), .fz (rwD [t1, t2]), .un, .un, .un, .un, .un]) (by simp) (fun q e => ∃ v10 v11 v12 v13, fr v10 = true ∧ fr v11 = true ∧ fr v12 = true ∧ fr v13 = true ∧ e = [.pn 1 (stD row p4), .fz (clD cols), .fz (rsD rules), .fz (rsD asked), .ow 1 PO, .fz (rwD rows), v6, .fz (.tup (r7.1.map D.str)), .ow 1 (clD known), .fz (rwD [t1, t2]), v10, v11, v12, v13, .un]) ?_ ?_ ?_
    · exact ⟨_, _, _, _, rfl, rfl, rfl, rfl, rfl⟩
    · rintro q tb q' e hx ⟨v10, v11, v12, v13, f10, f11, f12, f13, rfl⟩
      have htb : tb = rows ∨ tb = [t1, t2] := by have : tb ∈ [rows, [t1, t2]] := by { rw [hx]; simp }; simpa using this
      have hWt : Rw cols tb := by rcases htb with rfl | rfl <;> assumption
      have htl : tb.length ≤ 7 := by
        rcases htb with h | h
        · rw [h]; exact hrl'
        · rw [h]; simp
      refine ⟨rfl, [.pn 1 (stD row p4), .fz (clD cols), .fz (rsD rules), .fz (rsD asked), .ow 1 PO, .fz (rwD rows), v6, .fz (.tup (r7.1.map D.str)), .ow 1 (clD known), .fz (rwD [t1, t2]), .fz (rwD tb), v11, v12, v13, .un], by simp [f10], ?_⟩
      rw [wp_seq]
      have c2 : asked.length + rules.length ≤ 16777216 := by have := T.rn; omega
      refine wp_for (xs := asked ++ rules) (g := rl) (lk := none) (e1 := [.pn 1 (stD row p4), .fz (clD cols), .fz (rsD rules), .fz (rsD asked), .ow 1 PO, .fz (rwD rows), v6, .fz (.tup (r7.1.map D.str)), .ow 1 (clD known), .fz (rwD [t1, t2]), .fz (rwD tb), v11, v12, v13, .un]) (by simp [c2]) (fun q e => ∃ v11 v12 v13, fr v11 = true ∧ fr v12 = true ∧ fr v13 = true ∧ e = [.pn 1 (stD row p4), .fz (clD cols), .fz (rsD rules), .fz (rsD asked), .ow 1 PO, .fz (rwD rows), v6, .fz (.tup (r7.1.map D.str)), .ow 1 (clD known), .fz (rwD [t1, t2]), .fz (rwD tb), v11, v12, v13, .un]) ?_ ?_ ?_
      · exact ⟨_, _, _, f11, f12, f13, rfl⟩
      · rintro p8 r p9 e hy ⟨v11, v12, v13, f11, f12, f13, rfl⟩
        have hrm : r ∈ asked ++ rules := by rw [hy]; simp
        have hgr : Gr cols r := by
          rcases List.mem_append.1 hrm with h | h
          · exact ha r h
          · exact Gr.of (T.rr r h)
        have k1 := keeps_eq (n := n) (rows := tb) (rule := r) T.gc.nd (by omega) (.p : Sq (.pn 1 (clD cols)) (sts cols)) (.p : Sq (.pn 1 (rwD tb)) (tb.map rowD)) (by omega) hgr.1.lf hgr.2.lf hWt
        have k2 := kept_def (n := n + 2) (rule := r) (sr := .fz (rwD tb)) (.l : Sq _ (tb.map rowD)) hWt hgr.1 hgr.2
        have q1 := deq_rw hWt
        refine ⟨rfl, [.pn 1 (stD row p4), .fz (clD cols), .fz (rsD rules), .fz (rsD asked), .ow 1 PO, .fz (rwD rows), v6, .fz (.tup (r7.1.map D.str)), .ow 1 (clD known), .fz (rwD [t1, t2]), .fz (rwD tb), .fz (rl r), v12, v13, .un], by simp [f11], ?_⟩
        simp [f12, f13, k1, k2, q1]
        exact ⟨_, rfl, _, rfl, _, rfl, rfl, rfl, rfl⟩
      · rintro e ⟨v11, v12, v13, f11, f12, f13, rfl⟩
        refine ⟨rfl, ?_⟩
        simp only [unlock_none, exc_skip, wp_ok]
        exact ⟨_, _, _, _, rfl, f11, f12, f13, rfl⟩
    · rintro e ⟨v10, v11, v12, v13, f10, f11, f12, f13, rfl⟩
      refine ⟨rfl, ?_⟩
      simp only [unlock_none]
      have k3 := keeps_eq (n := n) (rows := []) (rule := a0) T.gc.nd (by omega) (.p : Sq (.pn 1 (clD cols)) (sts cols)) (.p : Sq (.pn 1 (.lst [])) (([] : List (List Str)).map rowD)) (by simp) ha0m.1.lf ha0m.2.lf (fun r hr => (by cases hr))
      rw [kept_nil] at k3
      have k4 := keeps_eq (n := n) (rows := [t2]) (rule := a0) T.gc.nd (by omega) (.t : Sq (.fz (.tup (cols.map D.str))) (sts cols)) (.p : Sq (.pn 1 (.lst [rowD t2])) ([t2].map rowD)) (by simp) ha0m.1.lf ha0m.2.lf (fun r hr => (by rw [List.mem_singleton.1 hr]; exact hw2))
      rw [kept_one] at k4
      have hcut : cutD [rowD t1, rowD t2] (some 1) none = [rowD t2] := rfl
      have da0 : didx (.lst (asked.map rl)) (.int 0) = some (rl a0) := by rw [hasked]; exact didx_l0
      simp [k3, k4, hcut, da0]
      exact hfin
end K81
end
section
set_option Elab.async false
set_option linter.all false
set_option maxRecDepth 100000
set_option maxHeartbeats 1000000
namespace K81
open PySem L2 Mi Mi.Px Pm
abbrev NW : Str := "nowhere"
abbrev NT : Str := "nothere"
/-- a name that is a column or one of two strange ones -/
def Nm (cols : List Str) (x : Str) : Prop := x ∈ cols ∨ x = NW ∨ x = NT
def Bd (cols : List Str) (r : Rule Str) : Prop := (∀ x ∈ r.1, Nm cols x) ∧ (∀ x ∈ r.2, Nm cols x) ∧ r.1.length ≤ 100 ∧ r.2.length ≤ 100
theorem with_eq {n : Nat} {row : List Int} {p : Int} {l : List Str} (hp : 0 ≤ p) (hl : l.length ≤ 20) :
    ∃ (l' : List Str) (p' : Int), R (n + 2) 30 [.pn 1 (stD row p), .fz (.tup (l.map D.str)), .fz (.str NW)] = .ok (.fz (.tup (l'.map D.str))) [.pn 1 (stD row p'), .fz (.tup (l.map D.str)), .fz (.str NW)] ∧ (∀ x ∈ l', x ∈ l ∨ x = NW) ∧ l'.length ≤ 2 * l.length + 1 ∧ 0 ≤ p' := by
  obtain ⟨v, p', g, hv0, hv1, hp'⟩ := take_eq (n := n) (row := row) (many := (l.length : Int) + 1) (by omega) hp
  have c1 := cutD_len (xs := l) (lo := none) (hi := some v)
  have c2 := cutD_len (xs := l) (lo := some v) (hi := none)
  have b1 : (cutD l none (some v)).length + 1 ≤ 16777216 := by omega
  have b2 : (cutD l none (some v)).length + 1 + (cutD l (some v) none).length ≤ 16777216 := by omega
  refine ⟨(cutD l none (some v) ++ [NW]) ++ cutD l (some v) none, p', ?_, ?_, by simp; omega, hp'⟩
  · refine eq_def rfl rfl ?_
    show wp (exc _ _ f_law_with.body [.pn 1 (stD row p), .fz (.tup (l.map D.str)), .fz (.str NW), .un]) _ _
    unfold f_law_with
    simp [g, cutD_map, b1, b2]
  · intro x hx
    simp only [List.mem_append, List.mem_singleton] at hx
    rcases hx with (hx | hx) | hx
    · exact .inl (cutD_mem hx)
    · exact .inr hx
    · exact .inl (cutD_mem hx)
theorem set_all {β : Type} {P : β → Prop} {l : List β} {i : Nat} {x : β} (h : ∀ y ∈ l, P y) (hx : P x) : ∀ y ∈ l.set i x, P y := by
  intro y hy
  rcases List.mem_or_eq_of_mem_set hy with hy | hy
  · exact h y hy
  · rw [hy]; exact hx
theorem sidx_rules {rules : List (Rule Str)} {i : Int} {r : Rule Str} (h0 : 0 ≤ i) (h : i < rules.length) : sidxD (.lst (rules.map rl)) (.int i) (rl r) = some (.lst ((rules.set i.toNat r).map rl)) := by
  have : ixN (rules.map rl).length i = some i.toNat := by unfold ixN; rw [if_pos h0, if_pos (by simpa using h)]
  show ((ixN (rules.map rl).length i).map fun j => D.lst ((rules.map rl).set j (rl r))) = _
  rw [this]
  simp [List.map_set]
theorem spoilt_eq {n : Nat} {row : List Int} {p : Int} {cols : List Str} {rules : List (Rule Str)} {rule : Rule Str} (hp : 0 ≤ p) (T : St cols rules) (g1 : L20 cols rule.1) (g2 : L20 cols rule.2) :
    ∃ (bad : List (Rule Str)) (sp : Rule Str) (p' : Int), R (n + 3) 31 [.pn 1 (stD row p), .fz (rsD rules), .fz (rl rule)] = .ok (.fz (.tup [rsD bad, rl (sp.1, sp.2 ++ [NT])])) [.pn 1 (stD row p'), .fz (rsD rules), .fz (rl rule)] ∧ (∀ r ∈ bad, Bd cols r) ∧ bad.length ≤ 12 ∧ Bd cols (sp.1, sp.2 ++ [NT]) ∧ 0 ≤ p' := by
  obtain ⟨a, p1, h1, ha0, ha1, hp1⟩ := take_eq (n := n + 1) (row := row) (many := (rules.length : Int) + 1) (by omega) hp
  obtain ⟨b, p2, h2, hb0, hb1, hp2⟩ := take_eq (n := n + 1) (row := row) (many := 2) (by omega) hp1
  have hBd0 : ∀ r ∈ rules, Bd cols r := fun r hr => ⟨fun x hx => .inl ((T.rr r hr).1 x hx), fun x hx => .inl ((T.rr r hr).2.1 x hx), by have := (T.rr r hr).2.2.1; omega, by have := (T.rr r hr).2.2.2; omega⟩
  suffices key : ∀ Q : RV → List SV → Prop, (∀ (bad : List (Rule Str)) (sp : Rule Str) (p' : Int), (∀ r ∈ bad, Bd cols r) → bad.length ≤ 12 → Bd cols (sp.1, sp.2 ++ [NT]) → 0 ≤ p' → Q (.fz (.tup [rsD bad, rl (sp.1, sp.2 ++ [NT])])) [.pn 1 (stD row p'), .fz (rsD rules), .fz (rl rule)]) → ∃ r ts, R (n + 3) 31 [.pn 1 (stD row p), .fz (rsD rules), .fz (rl rule)] = .ok r ts ∧ Q r ts by
    obtain ⟨r, ts, h, bad, sp, p', rfl, rfl, hz⟩ := key (fun r ts => ∃ (bad : List (Rule Str)) (sp : Rule Str) (p' : Int), r = .fz (.tup [rsD bad, rl (sp.1, sp.2 ++ [NT])]) ∧ ts = [.pn 1 (stD row p'), .fz (rsD rules), .fz (rl rule)] ∧ (∀ r ∈ bad, Bd cols r) ∧ bad.length ≤ 12 ∧ Bd cols (sp.1, sp.2 ++ [NT]) ∧ 0 ≤ p') (fun bad sp p' a b c d => ⟨bad, sp, p', rfl, rfl, a, b, c, d⟩)
    exact ⟨bad, sp, p', h, hz⟩
  intro Q hQ
  refine gives_def rfl rfl ?_
  show wp (exc _ _ f_law_spoilt.body [.pn 1 (stD row p), .fz (rsD rules), .fz (rl rule), .un, .un, .un, .un]) _ _
  unfold f_law_spoilt
  refine wp_step (e' := [.pn 1 (stD row p1), .fz (rsD rules), .fz (rl rule), .fz (.int a), .un, .un, .un]) (by simp [h1]) ?_
  refine wp_step (e' := [.pn 1 (stD row p2), .fz (rsD rules), .fz (rl rule), .fz (.int a), .fz (.int b), .un, .un]) (by simp [h2]) ?_
  refine wp_step (e' := [.pn 1 (stD row p2), .fz (rsD rules), .fz (rl rule), .fz (.int a), .fz (.int b), .ow 1 (rsD rules), .un]) (by simp) ?_
  refine wp_step (e' := [.pn 1 (stD row p2), .fz (rsD rules), .fz (rl rule), .fz (.int a), .fz (.int b), .ow 1 (rsD rules), .fz (rl rule)]) (by simp) ?_
  -- the one that is spoilt
  have tail : ∀ one : Rule Str, L20 cols one.1 → L20 cols one.2 → wp (exc (R (n + 2)) 100000 (.seq (.ifs (.tst (.cmp .eq (.var 4) (.cst (.int 0)))) (.seq (.set 6 (.tup 0 [(.call 30 [(.var 0), (.idx (.var 6) (.cst (.int 0))), (.cst (.str "nowhere"))]), (.idx (.var 6) (.cst (.int 1)))]))
    .skip) (.seq (.set 6 (.tup 0 [(.idx (.var 6) (.cst (.int 0))), (.call 30 [(.var 0), (.idx (.var 6) (.cst (.int 1))), (.cst (.str "nowhere"))])]))
    .skip))
  (.seq (.ifs (.tst (.cmp .lt (.var 3) (.blt .len [(.var 1)]))) (.seq (.sidx 5 (.var 3) (.var 6))
    (.seq (.set 6 (.var 2))
    .skip)) .skip)
  (.seq (.ret (.tup 0 [(.var 5), (.tup 0 [(.idx (.var 6) (.cst (.int 0))), (.bin .add (.idx (.var 6) (.cst (.int 1))) (.tup 0 [(.cst (.str "nothere"))]))])]))
  .skip))) [.pn 1 (stD row p2), .fz (rsD rules), .fz (rl rule), .fz (.int a), .fz (.int b), .ow 1 (rsD rules), .fz (rl one)]) (fun fl env => match fl with
      | .nx => ∃ ts, argOuts env 0 [.pn 1 (stD row p), .fz (rsD rules), .fz (rl rule)] = some ts ∧ Q (.fz .non) ts
      | .ret r => ∃ ts, argOuts env 0 [.pn 1 (stD row p), .fz (rsD rules), .fz (rl rule)] = some ts ∧ Q r ts
      | _ => False) (fun _ => False) := by
    intro one o1 o2
    have ol1 := o1.len
    have ol2 := o2.len
    obtain ⟨l1, q1, w1, ws1, wl1, hq1⟩ := with_eq (n := n) (row := row) (l := one.1) hp2 o1.len
    obtain ⟨l2, q2, w2, ws2, wl2, hq2⟩ := with_eq (n := n) (row := row) (l := one.2) hp2 o2.len
    have last : ∀ (one' : Rule Str) (p3 : Int), (Bd cols one' ∧ one'.2.length ≤ 99) → 0 ≤ p3 → wp (exc (R (n + 2)) 100000 (.seq (.ifs (.tst (.cmp .lt (.var 3) (.blt .len [(.var 1)]))) (.seq (.sidx 5 (.var 3) (.var 6))
    (.seq (.set 6 (.var 2))
    .skip)) .skip)
  (.seq (.ret (.tup 0 [(.var 5), (.tup 0 [(.idx (.var 6) (.cst (.int 0))), (.bin .add (.idx (.var 6) (.cst (.int 1))) (.tup 0 [(.cst (.str "nothere"))]))])]))
  .skip)) [.pn 1 (stD row p3), .fz (rsD rules), .fz (rl rule), .fz (.int a), .fz (.int b), .ow 1 (rsD rules), .fz (rl one')]) (fun fl env => match fl with
      | .nx => ∃ ts, argOuts env 0 [.pn 1 (stD row p), .fz (rsD rules), .fz (rl rule)] = some ts ∧ Q (.fz .non) ts
      | .ret r => ∃ ts, argOuts env 0 [.pn 1 (stD row p), .fz (rsD rules), .fz (rl rule)] = some ts ∧ Q r ts
      | _ => False) (fun _ => False) := by
      intro one' p3 hb hp3
      obtain ⟨hb, hbl⟩ := hb
      · by_cases hlt : a < rules.length
        · have hs := sidx_rules (r := one') ha0 hlt
          have c1 : rule.2.length + 1 ≤ 16777216 := by have := g2.len; omega
          have hq := hQ (rules.set a.toNat one') rule p3 (set_all hBd0 hb) (by have := T.rn; simp; omega) ⟨fun x hx => .inl (g1.sub x hx), snoc_all (fun x hx => .inl (g2.sub x hx)) (.inr (.inr rfl)), by have := g1.len; show rule.1.length ≤ 100; omega, by have := g2.len; show (rule.2 ++ [NT]).length ≤ 100; simp; omega⟩ hp3
          simp [hlt, hs, c1]
          simpa [rl, rsD] using hq
        · have c1 : one'.2.length + 1 ≤ 16777216 := by omega
          have hq := hQ rules one' p3 hBd0 (by have := T.rn; omega) ⟨hb.1, snoc_all hb.2.1 (.inr (.inr rfl)), hb.2.2.1, by show (one'.2 ++ [NT]).length ≤ 100; simp; omega⟩ hp3
          simp [hlt, c1]
          simpa [rl, rsD] using hq
    have ev4 : evt (R (n + 2)) (.tst (.cmp .eq (.var 4) (.cst (.int 0)))) [.pn 1 (stD row p2), .fz (rsD rules), .fz (rl rule), .fz (.int a), .fz (.int b), .ow 1 (rsD rules), .fz (rl one)] = .ok (decide (b = 0)) [.pn 1 (stD row p2), .fz (rsD rules), .fz (rl rule), .fz (.int a), .fz (.int b), .ow 1 (rsD rules), .fz (rl one)] := by simp
    have hNW : (Str.ofString "nowhere") = NW := rfl
    rw [wp_seq, wp_ifs, ev4, wp_ok]
    by_cases hb0 : b = 0
    · rw [if_pos (decide_eq_true hb0)]
      refine wp_step (e' := [.pn 1 (stD row q1), .fz (rsD rules), .fz (rl rule), .fz (.int a), .fz (.int b), .ow 1 (rsD rules), .fz (rl (l1, one.2))]) (by simp [hNW, w1]; simp [rl]) ?_
      rw [exc_skip, wp_ok]
      refine last (l1, one.2) q1 ⟨⟨fun x hx => ?_, fun x hx => .inl (o2.sub x hx), by show l1.length ≤ 100; omega, by show one.2.length ≤ 100; omega⟩, by show one.2.length ≤ 99; omega⟩ hq1
      rcases ws1 x hx with h | h
      · exact .inl (o1.sub x h)
      · exact .inr (.inl h)
    · rw [if_neg (by rw [decide_eq_true_eq]; exact hb0)]
      refine wp_step (e' := [.pn 1 (stD row q2), .fz (rsD rules), .fz (rl rule), .fz (.int a), .fz (.int b), .ow 1 (rsD rules), .fz (rl (one.1, l2))]) (by simp [hNW, w2]; simp [rl]) ?_
      rw [exc_skip, wp_ok]
      refine last (one.1, l2) q2 ⟨⟨fun x hx => .inl (o1.sub x hx), fun x hx => ?_, by show one.1.length ≤ 100; omega, by show l2.length ≤ 100; omega⟩, by show l2.length ≤ 99; omega⟩ hq2
      rcases ws2 x hx with h | h
      · exact .inl (o2.sub x h)
      · exact .inr (.inl h)
  rw [wp_seq, wp_ifs]
  have ev1 : evt (R (n + 2)) (.tst (.cmp .lt (.var 3) (.blt .len [(.var 1)]))) [.pn 1 (stD row p2), .fz (rsD rules), .fz (rl rule), .fz (.int a), .fz (.int b), .ow 1 (rsD rules), .fz (rl rule)] = .ok (decide (a < rules.length)) [.pn 1 (stD row p2), .fz (rsD rules), .fz (rl rule), .fz (.int a), .fz (.int b), .ow 1 (rsD rules), .fz (rl rule)] := by simp
  rw [ev1, wp_ok]
  by_cases hlt : a < rules.length
  · rw [if_pos (decide_eq_true hlt)]
    obtain ⟨r, hrm, hrd⟩ := didx_rule_mem ha0 hlt
    refine wp_step (e' := [.pn 1 (stD row p2), .fz (rsD rules), .fz (rl rule), .fz (.int a), .fz (.int b), .ow 1 (rsD rules), .fz (rl r)]) (by simp [hrd]) ?_
    rw [exc_skip, wp_ok]
    exact tail r (Gr.of (T.rr r hrm)).1 (Gr.of (T.rr r hrm)).2
  · rw [if_neg (by rw [decide_eq_true_eq]; exact hlt), exc_skip, wp_ok]
    exact tail rule g1 g2
end K81
end
section
set_option Elab.async false
set_option linter.all false
set_option maxRecDepth 100000
set_option maxHeartbeats 1000000
namespace K81
open PySem L2 Mi Mi.Px Pm
theorem exc_ifs2 {Φ : Calls} {W : Nat} {env : Mi.Env} {c : Ex} {a b : Sm} : exc Φ W (.ifs c a b) env = (evt Φ c env).bind fun c e => if c then exc Φ W a e else exc Φ W b e := by rw [exc]
theorem exc_seq2 {Φ : Calls} {W : Nat} {env : Mi.Env} {a b : Sm} : exc Φ W (.seq a b) env = (exc Φ W a env).bind fun f e => match f with
    | .nx => exc Φ W b e
    | f => .ok f e := by first | (rw [exc]; done) | (rw [exc]; rfl)
theorem ex_NW : exArg (.str NW) = true := by decide +kernel
theorem ex_NT : exArg (.str NT) = true := by decide +kernel
theorem okS_NW : okS NW = true := by decide +kernel
theorem okS_NT : okS NT = true := by decide +kernel
theorem wp_exn {α : Type} {r : Rs α} {x : Exn} (h : wp r (fun _ _ => False) (fun y => y = x)) : r = .ex x := by
  cases h with
  | ex h => rw [h]
  | ok h => exact h.elim
theorem firstNo_app {cols a b : List Str} {y : Str} (h : firstNo cols (a ++ b) = some y) : firstNo cols a = some y ∨ (firstNo cols a = none ∧ firstNo cols b = some y) := by
  unfold firstNo at h ⊢
  rw [List.find?_append] at h
  cases e : a.find? fun x => decide (x ∉ cols) with
  | some z => rw [e] at h; left; simpa using h
  | none => rw [e] at h; right; exact ⟨rfl, by simpa using h⟩
theorem within_of {cols : List Str} {rules : List (Rule Str)} (h : firstNo cols (flat rules) = none) : Within cols rules := by
  rw [firstNo_none] at h
  intro r hr
  exact ⟨fun c hc => h c (by simp only [flat, List.mem_flatMap]; exact ⟨r, hr, List.mem_append_left _ hc⟩), fun c hc => h c (by simp only [flat, List.mem_flatMap]; exact ⟨r, hr, List.mem_append_right _ hc⟩)⟩
section
variable {n : Nat} {cols : List Str} {bad : List (Rule Str)} {sp : Rule Str} {y : Str} {sc sr : SV} (hc : Sq sc (sts cols)) (hr : Sq sr (bad.map rl)) (hy : exArg (.str y) = true)
include hc hy
theorem look1_ex (h : firstNo cols (sp.1 ++ sp.2) = some y) : R (n + 2) 1 [sc, .pn 1 (.lst [rl sp])] = .ex ⟨0, .str y⟩ :=
  look_rules_ex (rules := [sp]) hc (.p : Sq _ ([sp].map rl)) (by simpa [flat] using h) hy
theorem keeps_ex {s1 : SV} (h : firstNo cols (sp.1 ++ sp.2) = some y) : R (n + 3) 4 [sc, s1, .fz (rl sp)] = .ex ⟨0, .str y⟩ := by
  have h1 := look1_ex (n := n) hc hy h
  refine ex_def rfl rfl ?_
  show wp (exc _ _ fkeeps.body [sc, s1, .fz (rl sp), .un, .un, .un, .un, .un, .un, .un, .un, .un]) _ _
  unfold fkeeps
  cases hc <;> simp [h1]
include hr
theorem look2_ex (h : firstNo cols (flat bad ++ (sp.1 ++ sp.2)) = some y) : R (n + 2) 1 [sc, sr] = .ex ⟨0, .str y⟩ ∨ (R (n + 2) 1 [sc, sr] = .ok (.fz .non) [sc, sr] ∧ R (n + 2) 1 [sc, .pn 1 (.lst [rl sp])] = .ex ⟨0, .str y⟩) := by
  rcases firstNo_app h with h | ⟨h1, h2⟩
  · exact .inl (look_rules_ex hc hr h hy)
  · exact .inr ⟨look_rules_ok hc hr (within_of h1), look1_ex hc hy h2⟩
theorem closure_ex {l : List Str} {sl : SV} (hl : Sq sl (sts l)) (h : firstNo cols (flat bad ++ l) = some y) : R (n + 3) 5 [sc, sr, sl] = .ex ⟨0, .str y⟩ := by
  refine ex_def rfl rfl ?_
  show wp (exc _ _ fclosure.body [sc, sr, sl, .un, .un]) _ _
  unfold fclosure
  rcases firstNo_app h with h | ⟨h1, h2⟩
  · have g := look_rules_ex (n := n) hc hr h hy
    cases hc <;> cases hr <;> simp [g]
  · have g1 := look_rules_ok (n := n) hc hr (within_of h1)
    have g2 := look_names_ex (n := n + 1) hc hl h2 hy
    cases hc <;> cases hr <;> cases hl <;> simp [g1, g2]
theorem follows_ex (h : firstNo cols (flat bad ++ (sp.1 ++ sp.2)) = some y) : R (n + 3) 6 [sc, sr, .fz (rl sp)] = .ex ⟨0, .str y⟩ := by
  refine ex_def rfl rfl ?_
  show wp (exc _ _ ffollows.body [sc, sr, .fz (rl sp)]) _ _
  unfold ffollows
  rcases look2_ex (n := n) hc hr hy h with g | ⟨g1, g2⟩
  · cases hc <;> cases hr <;> simp [g]
  · cases hc <;> cases hr <;> simp [g1, g2]
theorem derivation_ex (h : firstNo cols (flat bad ++ (sp.1 ++ sp.2)) = some y) : R (n + 3) 7 [sc, sr, .fz (rl sp)] = .ex ⟨0, .str y⟩ := by
  refine ex_def rfl rfl ?_
  show wp (exc _ _ fderivation.body [sc, sr, .fz (rl sp), .un, .un]) _ _
  unfold fderivation
  rcases look2_ex (n := n) hc hr hy h with g | ⟨g1, g2⟩
  · cases hc <;> cases hr <;> simp [g]
  · cases hc <;> cases hr <;> simp [g1, g2]
theorem is_der_ex {s3 : SV} (h : firstNo cols (flat bad ++ (sp.1 ++ sp.2)) = some y) : R (n + 3) 8 [sc, sr, .fz (rl sp), s3] = .ex ⟨0, .str y⟩ := by
  refine ex_def rfl rfl ?_
  show wp (exc _ _ fis_derivation.body [sc, sr, .fz (rl sp), s3, .un, .un, .un, .un, .un]) _ _
  unfold fis_derivation
  rcases look2_ex (n := n) hc hr hy h with g | ⟨g1, g2⟩
  · cases hc <;> cases hr <;> simp [g]
  · cases hc <;> cases hr <;> simp [g1, g2]
theorem two_rows_ex (h : firstNo cols (flat bad ++ (sp.1 ++ sp.2)) = some y) : R (n + 3) 9 [sc, sr, .fz (rl sp)] = .ex ⟨0, .str y⟩ := by
  refine ex_def rfl rfl ?_
  show wp (exc _ _ ftwo_rows.body [sc, sr, .fz (rl sp), .un, .un]) _ _
  unfold ftwo_rows
  rcases look2_ex (n := n) hc hr hy h with g | ⟨g1, g2⟩
  · cases hc <;> cases hr <;> simp [g]
  · cases hc <;> cases hr <;> simp [g1, g2]
end
/-- the names that the law finds, by the function that is asked -/
def Nms (w : Nat) (bad : List (Rule Str)) (sp : Rule Str) : List Str := (if w = 0 then [] else flat bad) ++ (if w = 1 then [] else sp.1) ++ sp.2
theorem R_hand {n : Nat} {ss : List SV} : R (n + 1) 29 ss = f_law_refuses.run (R n) 100000 ss := by rw [R_eq]; rfl
theorem refuses_eq {n w : Nat} {cols : List Str} {bad : List (Rule Str)} {sp : Rule Str} {y : Str} (hw : w < 6) (hy : exArg (.str y) = true) (h : firstNo cols (Nms w bad sp) = some y) :
    R (n + 4) 29 [.fz (.int w), .fz (clD cols), .fz (rsD bad), .fz (rl sp), .fz (.str y)] = .ok (.fz (.bl true)) [.fz (.int w), .fz (clD cols), .fz (rsD bad), .fz (rl sp), .fz (.str y)] := by
  have sc : Sq (.pn 1 (clD cols)) (sts cols) := .p
  have sr : Sq (.pn 1 (rsD bad)) (bad.map rl) := .p
  have key : exc (R (n + 3)) 100000 f_law_refuses.body [.fz (.int w), .fz (clD cols), .fz (rsD bad), .fz (rl sp), .fz (.str y), .un] = .ex ⟨0, .str y⟩ := by
    refine wp_exn ?_
    unfold f_law_refuses
    rcases (by omega : w = 0 ∨ w = 1 ∨ w = 2 ∨ w = 3 ∨ w = 4 ∨ w = 5) with rfl | rfl | rfl | rfl | rfl | rfl
    · have g := keeps_ex (n := n) (s1 := .pn 1 (.lst [])) (sp := sp) sc hy (by simpa [Nms] using h)
      simp [g]
    · have g := closure_ex (n := n) (sl := .pn 1 (clD sp.2)) (l := sp.2) sc sr hy .p (by simpa [Nms] using h)
      simp [g]
    · have g := follows_ex (n := n) (sp := sp) sc sr hy (by simpa [Nms] using h)
      simp [g]
    · have g := derivation_ex (n := n) (sp := sp) sc sr hy (by simpa [Nms] using h)
      simp [g]
    · have g := is_der_ex (n := n) (sp := sp) (s3 := .pn 1 (.lst [])) sc sr hy (by simpa [Nms] using h)
      simp [g]
    · have g := two_rows_ex (n := n) (sp := sp) sc sr hy (by simpa [Nms] using h)
      simp [g]
  rw [R_hand]
  unfold Tr.run
  rw [if_pos ⟨rfl, rfl⟩]
  have e : f_law_refuses.start [.fz (.int w), .fz (clD cols), .fz (rsD bad), .fz (rl sp), .fz (.str y)] = [.fz (.int w), .fz (clD cols), .fz (rsD bad), .fz (rl sp), .fz (.str y), .un] := rfl
  rw [e, key]
  have hd : (deq (.str y) (.str y)).map D.bl = some (.bl true) := by simp
  show (if (0 : Nat) = 0 then (match (deq (.str y) (.str y)).map D.bl with | some v => Ans.ok (.fz v) _ | none => .no) else .no) = _
  rw [hd]
  rfl
def RfI (row : List Int) (p' : Int) (cols : List Str) (rules bad : List (Rule Str)) (rule sp : Rule Str) (q : List Nat) (e : Mi.Env) : Prop := ∃ v4 v7 v8 v9, fr v4 = true ∧ fr v7 = true ∧ fr v8 = true ∧ fr v9 = true ∧ e = [.pn 1 (stD row p'), .fz (clD cols), .fz (rsD rules), .fz (rl rule), v4, .fz (rsD bad), .fz (rl sp), v7, v8, v9]
theorem flat_len {bad : List (Rule Str)} (h : ∀ r ∈ bad, r.1.length ≤ 100 ∧ r.2.length ≤ 100) : (flat bad).length ≤ bad.length * 200 := by
  induction bad with
  | nil => simp [flat]
  | cons r l ih =>
    have h1 := h r (List.mem_cons_self ..)
    have h2 := ih fun r hr => h r (List.mem_cons_of_mem _ hr)
    simp only [flat, List.flatMap_cons, List.length_append, List.length_cons] at h2 ⊢
    omega
theorem refusals_eq {n : Nat} {row : List Int} {p : Int} {cols : List Str} {rules : List (Rule Str)} {rule : Rule Str} (hp : 0 ≤ p) (T : St cols rules) (g1 : L20 cols rule.1) (g2 : L20 cols rule.2) :
    ∃ p', R (n + 5) 32 [.pn 1 (stD row p), .fz (clD cols), .fz (rsD rules), .fz (rl rule)] = .ok (.fz (.bl true)) [.pn 1 (stD row p'), .fz (clD cols), .fz (rsD rules), .fz (rl rule)] ∧ 0 ≤ p' := by
  obtain ⟨bad, sp0, p', hs, hb, hbl, hsp, hp'⟩ := spoilt_eq (n := n + 1) (row := row) hp T g1 g2
  refine ⟨p', ?_, hp'⟩
  generalize hspd : (sp0.1, sp0.2 ++ [NT]) = sp at hs hsp
  have hNT : NT ∈ sp.2 := by rw [← hspd]; simp
  have hflat : (flat bad).length ≤ 2400 := by have := flat_len (bad := bad) fun r hr => ⟨(hb r hr).2.2.1, (hb r hr).2.2.2⟩; omega
  have hsl1 := hsp.2.2.1
  have hsl2 := hsp.2.2.2
  -- every function is asked of names among which some are strange
  have hall : ∀ w, ∀ x ∈ Nms w bad sp, Nm cols x := by
    intro w x hx
    unfold Nms at hx
    simp only [List.mem_append] at hx
    rcases hx with (hx | hx) | hx
    · split at hx
      · cases hx
      · simp only [flat, List.mem_flatMap, List.mem_append] at hx
        obtain ⟨r, hr, hx | hx⟩ := hx
        · exact (hb r hr).1 x hx
        · exact (hb r hr).2.1 x hx
    · split at hx
      · cases hx
      · exact hsp.1 x hx
    · exact hsp.2.1 x hx
  have hfirst : ∀ w, ∃ y, firstNo cols (Nms w bad sp) = some y ∧ exArg (.str y) = true := by
    intro w
    cases h : firstNo cols (Nms w bad sp) with
    | none =>
      rw [firstNo_none] at h
      exact absurd (h NT (by unfold Nms; simp [hNT])) T.gc.w2
    | some y =>
      refine ⟨y, rfl, ?_⟩
      unfold firstNo at h
      have h1 := List.find?_some h
      have h2 := List.mem_of_find?_eq_some h
      simp only [decide_eq_true_eq] at h1
      rcases hall w y h2 with h3 | rfl | rfl
      · exact absurd h3 h1
      · exact ex_NW
      · exact ex_NT
  refine eq_def rfl rfl ?_
  show wp (exc _ _ f_law_refusals.body [.pn 1 (stD row p), .fz (clD cols), .fz (rsD rules), .fz (rl rule), .un, .un, .un, .un, .un, .un]) _ _
  unfold f_law_refusals
  refine wp_step (e' := [.pn 1 (stD row p'), .fz (clD cols), .fz (rsD rules), .fz (rl rule), .un, .fz (rsD bad), .fz (rl sp), .un, .un, .un]) (by simp [hs]) ?_
  rw [wp_seq]
  refine wp_for (xs := List.range 6) (g := fun (k : Nat) => D.int (k : Int)) (lk := none) (e1 := [.pn 1 (stD row p'), .fz (clD cols), .fz (rsD rules), .fz (rl rule), .un, .fz (rsD bad), .fz (rl sp), .un, .un, .un]) (evi_rng (by simp) (by omega)) (RfI row p' cols rules bad rule sp) ?_ ?_ ?_
  · exact ⟨_, _, _, _, rfl, rfl, rfl, rfl, rfl⟩
  · rintro q w q' e hx ⟨v4, v7, v8, v9, f4, f7, f8, f9, rfl⟩
    have hw6 := range_mem hx
    obtain ⟨y, hy1, hy2⟩ := hfirst w
    refine ⟨rfl, [.pn 1 (stD row p'), .fz (clD cols), .fz (rsD rules), .fz (rl rule), .fz (.int w), .fz (rsD bad), .fz (rl sp), v7, v8, v9], by simp [f4], ?_⟩
    refine wp_step (e' := [.pn 1 (stD row p'), .fz (clD cols), .fz (rsD rules), .fz (rl rule), .fz (.int w), .fz (rsD bad), .fz (rl sp), .ow 1 (clD []), v8, v9]) (by simp [f7]) ?_
    rw [wp_seq]
    refine wp_for (xs := bad) (g := rl) (lk := none) (e1 := [.pn 1 (stD row p'), .fz (clD cols), .fz (rsD rules), .fz (rl rule), .fz (.int w), .fz (rsD bad), .fz (rl sp), .ow 1 (clD []), v8, v9]) (by simp) (fun p e => ∃ v8, fr v8 = true ∧ e = [.pn 1 (stD row p'), .fz (clD cols), .fz (rsD rules), .fz (rl rule), .fz (.int w), .fz (rsD bad), .fz (rl sp), .ow 1 (clD (flat p)), v8, v9]) ?_ ?_ ?_
    · exact ⟨_, f8, rfl⟩
    · rintro p r p2 e hy ⟨v8, f8, rfl⟩
      have hpl : (flat p).length ≤ 2400 := by
        have : (flat p).length ≤ (flat bad).length := by rw [hy]; simp [flat]
        omega
      have hr := hb r (by rw [hy]; simp)
      have c1 : (flat p).length + r.1.length ≤ 16777216 := by have := hr.2.2.1; omega
      have c2 : (flat p).length + r.1.length + r.2.length ≤ 16777216 := by have := hr.2.2.1; have := hr.2.2.2; omega
      refine ⟨rfl, [.pn 1 (stD row p'), .fz (clD cols), .fz (rsD rules), .fz (rl rule), .fz (.int w), .fz (rsD bad), .fz (rl sp), .ow 1 (clD (flat p)), .fz (rl r), v9], by simp [f8], ?_⟩
      have e : flat (p ++ [r]) = flat p ++ (r.1 ++ r.2) := by simp [flat]
      simp [c1, c2, e]
    · rintro e ⟨v8, f8, rfl⟩
      refine ⟨rfl, ?_⟩
      simp only [unlock_none]
      have fin : ∀ N : List Str, N = Nms w bad sp → wp (exc (R (n + 4)) 100000 (.seq (.set 9 (.call 16 [(.var 7), (.var 1)]))
    (.seq (.ifs (.not (.tst (.call 29 [(.var 4), (.var 1), (.var 5), (.var 6), (.idx (.var 9) (.cst (.int 0)))]))) (.seq (.ret (.cst (.bl false)))
      .skip) .skip)
    .skip)) [.pn 1 (stD row p'), .fz (clD cols), .fz (rsD rules), .fz (rl rule), .fz (.int w), .fz (rsD bad), .fz (rl sp), .ow 1 (clD N), v8, v9]) (fun f e => f = .nx ∧ RfI row p' cols rules bad rule sp (q ++ [w]) e) (fun _ => False) := by
        rintro N rfl
        have hNl : (Nms w bad sp).length ≤ 16777216 := by
          have : (Nms w bad sp).length ≤ (flat bad).length + sp.1.length + sp.2.length := by
            unfold Nms; simp only [List.length_append]
            split <;> split <;> simp <;> omega
          omega
        have l1 := lacks_eq (n := n + 3) (.p : Sq (.pn 1 (clD (Nms w bad sp))) (sts (Nms w bad sp))) (.l : Sq (.fz (clD cols)) (sts cols)) (by simpa using hNl)
        obtain ⟨t, ht⟩ : ∃ t, lacks (Nms w bad sp) cols = y :: t := by
          have : (lacks (Nms w bad sp) cols).head? = some y := by unfold lacks; rw [List.head?_filter]; exact hy1
          cases h : lacks (Nms w bad sp) cols with
          | nil => rw [h] at this; cases this
          | cons z t => rw [h] at this; cases this; exact ⟨t, rfl⟩
        rw [ht] at l1
        have rf := refuses_eq (n := n) (cols := cols) (bad := bad) (sp := sp) hw6 hy2 hy1
        simp at l1
        simp [l1, f9, rf]
        exact ⟨_, _, _, _, rfl, rfl, f8, rfl, rfl⟩
      generalize hN0 : (if w = 0 then [] else flat bad) = N0
      have hN0l : N0.length ≤ 2400 := by rw [← hN0]; split; { simp }; { exact hflat }
      refine wp_step (e' := [.pn 1 (stD row p'), .fz (clD cols), .fz (rsD rules), .fz (rl rule), .fz (.int w), .fz (rsD bad), .fz (rl sp), .ow 1 (clD N0), v8, v9]) (by
        by_cases hw0 : w = 0
        · rw [if_pos hw0] at hN0; simp [exc_ifs2, exc_seq2, hw0, ← hN0]
        · rw [if_neg hw0] at hN0; simp [exc_ifs2, exc_seq2, hw0, ← hN0]) ?_
      generalize hN1 : (if w = 1 then [] else sp.1) = N1
      have hN1l : N1.length ≤ 100 := by rw [← hN1]; split; { simp }; { exact hsl1 }
      have c1 : N0.length + sp.1.length ≤ 16777216 := by omega
      have c2 : N0.length + N1.length + sp.2.length ≤ 16777216 := by omega
      refine wp_step (e' := [.pn 1 (stD row p'), .fz (clD cols), .fz (rsD rules), .fz (rl rule), .fz (.int w), .fz (rsD bad), .fz (rl sp), .ow 1 (clD (N0 ++ N1)), v8, v9]) (by
        by_cases hw1 : w = 1
        · have hw1' : (w : Int) = 1 := by omega
          rw [if_pos hw1] at hN1; simp [exc_ifs2, exc_seq2, hw1', ← hN1]
        · have hw1' : ¬ (w : Int) = 1 := by omega
          rw [if_neg hw1] at hN1; simp [exc_ifs2, exc_seq2, hw1', ← hN1, c1]) ?_
      refine wp_step (e' := [.pn 1 (stD row p'), .fz (clD cols), .fz (rsD rules), .fz (rl rule), .fz (.int w), .fz (rsD bad), .fz (rl sp), .ow 1 (clD (N0 ++ N1 ++ sp.2)), v8, v9]) (by simp [c2]) ?_
      refine wp_mono (fin (N0 ++ N1 ++ sp.2) (by unfold Nms; rw [hN0, hN1])) (fun f e h => ?_) (fun _ h => h)
      obtain ⟨rfl, h⟩ := h
      exact h
  · rintro e ⟨v4, v7, v8, v9, f4, f7, f8, f9, rfl⟩
    simp
end K81
end
section
set_option Elab.async false
set_option linter.all false
set_option maxRecDepth 100000
set_option maxHeartbeats 1000000
namespace K81
open PySem L2 Mi Mi.Px Pm
def LwI (sc0 : SV) (row : List Int) (cols : List Str) (rules asked : List (Rule Str)) (q : List (Rule Str)) (e : Mi.Env) : Prop := ∃ (p : Int) (v5 : SV), 0 ≤ p ∧ fr v5 = true ∧ e = [sc0, .ow 1 (stD row p), .fz (clD cols), .fz (rsD rules), .fz (rsD asked), v5]
theorem law_gives {n : Nat} {xs : List Int} (hx : xs.length ≤ 63) : ∃ ts, R (n + 6) 33 [.fz (.lst (xs.map D.int))] = .ok (.fz (.bl true)) ts := by
  obtain ⟨row, h1⟩ := digits_eq (n := n + 4) hx
  obtain ⟨cols, p2, h2, Gcols, hp2⟩ := drawn_columns_eq (n := n + 2) (row := row) (p := 0) (by omega)
  obtain ⟨rules, p3, h3, hrr, hrn, hp3⟩ := drawn_rules_eq (n := n + 2) (row := row) (cols := cols) hp2 Gcols.len
  obtain ⟨asked, p4, h4, hga, hne, hal, hp4⟩ := asked_eq (n := n + 2) (row := row) (cols := cols) (rules := rules) hp3 Gcols.ok Gcols.len hrr hrn
  have T : St cols rules := ⟨Gcols, hrr, hrn⟩
  generalize hs0 : SV.fz (.lst (xs.map D.int)) = sc0 at h1
  suffices key : ∃ r ts, R (n + 6) 33 [sc0] = .ok r ts ∧ r = .fz (.bl true) by
    obtain ⟨r, ts, h, rfl⟩ := key
    exact ⟨ts, h⟩
  have hout : ∀ a b c d e, ∃ t, argOut [sc0, a, b, c, d, e] 0 sc0 = some t := by intro a b c d e; rw [← hs0]; exact ⟨_, rfl⟩
  refine gives_def rfl rfl ?_
  show wp (exc _ _ flaw.body [sc0, .un, .un, .un, .un, .un]) _ _
  unfold flaw
  refine wp_step (e' := [sc0, .ow 1 (stD row 0), .un, .un, .un, .un]) (by rw [← hs0] at h1 ⊢; simp [h1]) ?_
  refine wp_step (e' := [sc0, .ow 1 (stD row p2), .ow 1 (clD cols), .un, .un, .un]) (by simp [h2]) ?_
  refine wp_step (e' := [sc0, .ow 1 (stD row p3), .fz (clD cols), .ow 1 (rsD rules), .un, .un]) (by simp [h3]) ?_
  refine wp_step (e' := [sc0, .ow 1 (stD row p4), .fz (clD cols), .fz (rsD rules), .ow 1 (rsD asked), .un]) (by simp [h4]) ?_
  rw [wp_seq]
  refine wp_for (xs := asked) (g := rl) (lk := none) (e1 := [sc0, .ow 1 (stD row p4), .fz (clD cols), .fz (rsD rules), .fz (rsD asked), .un]) (by simp) (LwI sc0 row cols rules asked) ?_ ?_ ?_
  · exact ⟨p4, _, hp4, rfl, rfl⟩
  · rintro q r q' e hq ⟨p, v5, hp, f5, rfl⟩
    have hr := hga r (by rw [hq]; simp)
    have c1 := closed_eq (n := n + 1) (left := r.1) T hr.1
    have c2 := closed_eq (n := n + 1) (left := r.2) T hr.2
    obtain ⟨p5, c3, hp5⟩ := derived_eq (n := n + 1) (row := row) hp T hr.1 hr.2
    have c4 := parted_eq (n := n + 1) T hr.1 hr.2
    refine ⟨rfl, [sc0, .ow 1 (stD row p), .fz (clD cols), .fz (rsD rules), .fz (rsD asked), .fz (rl r)], by simp [f5], ?_⟩
    refine wp_step_ifs (e' := [sc0, .ow 1 (stD row p), .fz (clD cols), .fz (rsD rules), .fz (rsD asked), .fz (rl r)]) (by simp [c1]) rfl ?_
    refine wp_step_ifs (e' := [sc0, .ow 1 (stD row p), .fz (clD cols), .fz (rsD rules), .fz (rsD asked), .fz (rl r)]) (by simp [c2]) rfl ?_
    refine wp_step_ifs (e' := [sc0, .ow 1 (stD row p5), .fz (clD cols), .fz (rsD rules), .fz (rsD asked), .fz (rl r)]) (by simp [c3]) rfl ?_
    refine wp_step_ifs (e' := [sc0, .ow 1 (stD row p5), .fz (clD cols), .fz (rsD rules), .fz (rsD asked), .fz (rl r)]) (by simp [c4]) rfl ?_
    rw [exc_skip, wp_ok]
    exact ⟨p5, _, hp5, rfl, rfl⟩
  · rintro e ⟨p, v5, hp, f5, rfl⟩
    refine ⟨rfl, ?_⟩
    simp only [unlock_none]
    obtain ⟨p6, c5, hp6⟩ := tables_eq (n := n + 1) (row := row) hp T hga hne hal
    have hpos : 0 < asked.length := by cases asked with | nil => exact absurd rfl hne | cons _ _ => simp
    obtain ⟨i, p7, c6, hi0, hi1, hp7⟩ := take_eq (n := n + 4) (row := row) (many := asked.length) (by omega) hp6
    obtain ⟨r, hrm, hrd⟩ := didx_rule_mem hi0 hi1
    obtain ⟨p8, c7, hp8⟩ := refusals_eq (n := n) (row := row) hp7 T (hga r hrm).1 (hga r hrm).2
    refine wp_step_ifs (e' := [sc0, .ow 1 (stD row p6), .fz (clD cols), .fz (rsD rules), .fz (rsD asked), v5]) (by simp [c5]) rfl ?_
    refine wp_step (e' := [sc0, .ow 1 (stD row p7), .fz (clD cols), .fz (rsD rules), .fz (rsD asked), .fz (rl r)]) (by simp [c6, hrd, f5]) ?_
    simp [c7]
    obtain ⟨t, ht⟩ := hout (.ow 1 (stD row p8)) (.fz (clD cols)) (.fz (rsD rules)) (.fz (rsD asked)) (.fz (rl r))
    rw [ht]
    exact ⟨_, rfl⟩
theorem law_true : ∀ xs : List Int, xs.length ≤ 63 → ∃ ts, runs 100000 ds 8 33 [.fz (.lst (xs.map D.int))] = .ok (.fz (.bl true)) ts := by
  intro xs h
  have := law_gives (n := 2) h
  rw [R_eq] at this
  exact this
end K81
end
section
set_option Elab.async false
set_option linter.all false
set_option maxRecDepth 1000000
namespace K81
open PySem L2 Mi
/-- the exceptions of this law -/
def ER (C : Addr) : Exn → Value → Option Addr → Hp → Hp → Prop := fun x cls d F H => x.cls = 0 ∧ OxAt C "name" x cls d F H
def suiteOf : Stmt → List Stmt
  | .Try _ [.ExceptHandler _ _ b _] _ _ _ => b
  | _ => []
structure Facts (P : Program) (K : Frag) (mg : Str → Option Value) (C fI cc cda aT aB aN aV : Addr) : Prop where
  T : Ox.Txt P K mg "NoColumn" "name" "no column is called " "NoColumn.__init__" C fI cc cda
  hd : PySem.W.hasDictIn K C = true
  EC : ExcC K C
  gT : mg "Twin" = some (.ref aT)
  gB : mg "BadName" = some (.ref aB)
  gN : mg "NotAValue" = some (.ref aN)
  gV : mg "ViewError" = some (.ref aV)
  gE : mg "ValueError" = none
  kT : PySem.W.kitOne K (.ref C) (.ref aT) = some false
  kB : PySem.W.kitOne K (.ref C) (.ref aB) = some false
  kN : PySem.W.kitOne K (.ref C) (.ref aN) = some false
  kV : PySem.W.kitOne K (.ref C) (.ref aV) = some true
  kE : PySem.W.kitOne K (.ref C) (.type "ValueError") = some true
  ex : PySem.W.exmOne K (.ref C) (.ref C) = some true
  bl : ∀ x, x ∈ (["len", "int", "abs", "all", "any", "sum", "tuple", "list", "max", "min", "reversed", "isinstance", "range", "enumerate", "bool", "str", "dict"] : List Str) → mg x = none
section
variable {P : Program} {w : World} {K : Frag} {mg : Str → Option Value} {base : Heap} {k : Nat} {C fI cc cda aT aB aN aV : Addr}
abbrev ti : Nat := 37
theorem suite_ok (Fa : Facts P K mg C fI cc cda aT aB aN aV) {X : Cx} {E : XK} (cx : CxOk P w K mg base k f_law_refuses.names (defScope (top ti)) (Wk E) X) {x : Exn} {ss : List SV} {vs : List V} {F H : Hp} {cls : Value} {dd : Option Addr} {a : Addr} {r : D} {De : Ends}
    (er : ER C x cls dd F H) (ha : f_law_refuses.ans x ss = some r) (sub : Sub F H) (lv : vs.length = 5) (ls : ss.length = 5)
    (hs : ∀ (i : Nat) s v, ss[i]? = some s → vs[i]? = some v → SlotOk F H none1 (some v) s) (q : ∀ v', At F v' r → De.rt v' H)
    {oe : Obj} {pn : List (Addr × Obj)} (hz : Zc cls dd oe) (hf : ∃ vs, oe.data = .fields vs) : WB (X.suite a ((a, oe) :: pn)) (suiteOf (headOf (defBody (top ti)))) De ((start f_law_refuses.names vs).set 5 (some (.ref a))) H := by
  obtain ⟨_, rfl, d1, v, rfl, hh, hv⟩ := er
  have hmi := Fa.bl "isinstance" (by decide +kernel)
  have hgi : Mi.gl (defScope (top ti)) "isinstance" = true := by decide +kernel
  have hN : f_law_refuses.names[5]? = some ("e" : Str) := rfl
  have hvi : vis (defScope (top ti)) "e" = true := by decide +kernel
  have se : ((start f_law_refuses.names vs).set 5 (some (.ref a)))[5]? = some (some (.ref a)) := by
    rw [List.getElem?_set_self]
    unfold L2.start
    simp only [List.length_append, List.length_map, List.length_replicate]
    have : f_law_refuses.names.length = 6 := rfl
    omega
  refine ⟨_, pss_cons (ps_if (PW.pt (pw_or (pt_truth WE.pe (isTrue_plain rfl)) (pw_or (pt_truth WE.pe (isTrue_plain rfl)) (pw_or1 (pt_truth WE.pe (isTrue_plain rfl)))))) (pss_one (ps_ret pe_bl)) pss_nil) (pss_one (ps_ret (pe_and WE.pe (pe_and WE.pe (pe_one (pe_cmpR WOp.op WE.pe WE.pe rfl)))))), ?_⟩
  refine su_isOwn cx hmi hgi (by decide +kernel) Fa.gT hN hvi Fa.EC hz hf Fa.kT se rfl hh ⟨false, rfl, ?_⟩
  refine iteF ?_
  refine su_isOwn cx hmi hgi (by decide +kernel) Fa.gB hN hvi Fa.EC hz hf Fa.kB se rfl hh ⟨false, rfl, ?_⟩
  refine iteF ?_
  refine su_isOwn cx hmi hgi (by decide +kernel) Fa.gN hN hvi Fa.EC hz hf Fa.kN se rfl hh ⟨false, rfl, ?_⟩
  refine iteF ?_
  refine su_isOwn cx hmi hgi (by decide +kernel) Fa.gV hN hvi Fa.EC hz hf Fa.kV se rfl hh ⟨true, rfl, ?_⟩
  refine iteT ?_
  refine su_isTy cx hmi hgi (by decide +kernel) Fa.gE (t := "ValueError") (by decide +kernel) hN hvi Fa.EC hz hf Fa.kE se rfl hh ⟨true, rfl, ?_⟩
  refine iteT ?_
  refine su_field cx Fa.T Fa.hd hN hvi hz hf rfl (fun _ => rfl) se rfl hh ?_
  -- the name
  have h4 : ∃ nm : D, ss[4]? = some (.fz nm) ∧ ∃ z, deq x.arg nm = some z ∧ r = .bl z := by
    unfold f_law_refuses at ha
    dsimp only at ha
    split at ha
    · rename_i nm e
      cases e2 : deq x.arg nm with
      | none => rw [e2] at ha; cases ha
      | some z => rw [e2] at ha; cases ha; exact ⟨nm, e, z, e2, rfl⟩
    · cases ha
  obtain ⟨nm, e4, z, ez, rfl⟩ := h4
  have hi : 4 < vs.length := by omega
  have ev : vs[4]? = some vs[4] := List.getElem?_eq_getElem hi
  obtain ⟨v4, hv4, hn4⟩ := hs 4 _ _ e4 ev
  cases hv4
  have s4 : ((start f_law_refuses.names vs).set 5 (some (.ref a)))[4]? = some (some vs[4]) := by
    rw [List.getElem?_set_ne (by decide)]
    unfold L2.start
    rw [List.getElem?_append_left (by rw [List.length_map]; exact hi), List.getElem?_map, ev]; rfl
  obtain ⟨v1, v2, v3⟩ := vis_of (sc := defScope (top ti)) (x := "name") (by decide +kernel)
  obtain ⟨r0, hr0, hq0⟩ := cop_ok (X := X.suite a ((a, oe) :: pn)) (o := .eq) (d := x.arg) (d' := nm) (c := z) (cx.room.units) ez
  refine ⟨_, pe_var (i := 4) (by show X.N[4]? = _; rw [cx.eN]; rfl) (by show Vis X.env.scope _; rw [cx.esc]; exact v1) v2 v3, _, s4, r0, hr0, ?_⟩
  exact hq0 F H v vs[4] _ sub (Pk.of_at sub hv) (Pk.of_at sub hn4) (q _ (.bl z))
end
end K81
end
section
set_option Elab.async false
set_option linter.all false
set_option maxRecDepth 1000000
namespace K81
open PySem L2 Mi
/-- a def stands at the top as its text says -/
def DefAt (K : Frag) (x : Str) (st : Stmt) : Prop := ∃ (f : Addr) (oc : Value) (od : Option Addr) (kV dc pm : Value) (an : Option Addr) (cd ct : Value) (sl : Array (Option Value)),
  PySem.W.nsIn K mainGlobals x = some (some (.ref f)) ∧ K.lookup f = some ⟨oc, od, .func (PySem.W.fnOf x x (defArgs st) (defBody st) (defScope st) .none kV dc pm an cd ct), sl⟩ ∧ PySem.W.codeIn K cd x = true ∧ PySem.W.keepIn K (.ref f) = true
inductive Pd {α β : Type} (R : α → β → Prop) : List α → List β → Prop
  | nil : Pd R [] []
  | cons {a : α} {b : β} {l : List α} {m : List β} : R a b → Pd R l m → Pd R (a :: l) (b :: m)
theorem Pd.at {α β : Type} {R : α → β → Prop} {l : List α} {m : List β} (h : Pd R l m) : ∀ (i : Nat) (a : α), l[i]? = some a → ∃ b, m[i]? = some b ∧ R a b := by
  induction h with
  | nil => intro i a e; simp at e
  | cons r _ ih =>
    intro i a e
    cases i with
    | zero => simp at e; subst e; exact ⟨_, rfl, r⟩
    | succ i => exact ih i a (by simpa using e)
section
variable {P : Program} {w : World} {K : Frag} {mg : Str → Option Value} {base h : Heap} {C fI cc cda aT aB aN aV : Addr}
theorem ent (X : K.In h) (G : h.Ns mainGlobals mg) {d : Fd} {ps : List Str} {x : Str} {st : Stmt} (D : DefAt K x st) (S : FnScope d.names ps (defScope st)) (hn : ps.length = d.np) (hB : mB cfg d.names (defScope st) d.body (defBody st) = true)
    (hb : ∀ (kV doc pm : Value) (an : Option Addr) (cdv ct : Value) (us : List Value), us.length = ps.length → bindArgs (PySem.W.fnOf x x (defArgs st) (defBody st) (defScope st) .none kV doc pm an cdv ct) ⟨us, []⟩ = pure (ps.zip us)) : Ent 100000 cfg (ER C) P w K mg base x (.ir d) := by
  obtain ⟨f, oc, od, kV, dc, pm, an, cd, ct, sl, h1, h2, h3, h4⟩ := D
  exact ent_of (fun_mk h2 h3 h4) S (PySem.W.mg_of X G h1) ((fun_mk h2 h3 h4).binds hb) hn hB
theorem ent_refuses (X : K.In h) (G : h.Ns mainGlobals mg) (Fa : Facts P K mg C fI cc cda aT aB aN aV) (D : DefAt K "_law_refuses" (top ti)) : Ent 100000 cfg (ER C) P w K mg base "_law_refuses" (.hand fun Φ => f_law_refuses.run Φ 100000) := by
  obtain ⟨f, oc, od, kV, dc, pm, an, cd, ct, sl, h1, h2, h3, h4⟩ := D
  refine ⟨f, _, ["which", "columns", "rules", "rule", "name"], PySem.W.mg_of X G h1, h4, (fun_mk h2 h3 h4).binds (fun _ _ _ _ _ _ us hl => match us, hl with | [_, _, _, _, _], _ => rfl), fun Φ ss hs => ?_, fun n Φ T => ?_⟩
  · show Tr.run Φ 100000 f_law_refuses ss = .no
    unfold Tr.run
    rw [if_neg (fun z => hs z.1)]
  · refine tr_ok (d := f_law_refuses) (n := "e") (xc := "NoColumn") (cv := .ref C) (ts := fun X a cls dd De σ H => ∀ (oe : Obj) (pn : List (Addr × Obj)), Zc cls dd oe → (∃ vs, oe.data = .fields vs) → WB (X.suite a ((a, oe) :: pn)) (suiteOf (headOf (defBody (top ti)))) De σ H)
      (fun_mk h2 h3 h4) s_law_refuses T rfl rfl t_law_refuses m_law_refuses m_law_refuses2 rfl (by decide +kernel) (by decide +kernel) Fa.T.gC (fun x cls dd F H er _ => ?_) (fun X E cx a oe cls dd pn hz hf => ?_) (fun X E cx x ss vs F H cls dd a r De er _ ha sub lv ls hs q oe pn hz hf => ?_)
    · obtain ⟨_, rfl, _⟩ := er
      exact Fa.ex
    · exact ⟨fun pins s σ H D I h => WB.pss.run pins s σ H D I (h oe pn hz hf)⟩
    · exact suite_ok Fa cx er ha sub lv ls hs q hz hf
theorem tab (X : K.In h) (G : h.Ns mainGlobals mg) (Fa : Facts P K mg C fI cc cda aT aB aN aV)
    (D0 : DefAt K "look_names" (top 7))
    (D1 : DefAt K "look_rules" (top 8))
    (D2 : DefAt K "all_in" (top 9))
    (D3 : DefAt K "reached" (top 10))
    (D4 : DefAt K "keeps" (top 11))
    (D5 : DefAt K "closure" (top 12))
    (D6 : DefAt K "follows" (top 13))
    (D7 : DefAt K "derivation" (top 14))
    (D8 : DefAt K "is_derivation" (top 15))
    (D9 : DefAt K "two_rows" (top 16))
    (D10 : DefAt K "_law_digits" (top 18))
    (D11 : DefAt K "_law_take" (top 19))
    (D12 : DefAt K "_law_new_names" (top 20))
    (D13 : DefAt K "_law_drawn_columns" (top 21))
    (D14 : DefAt K "_law_pick" (top 22))
    (D15 : DefAt K "_law_drawn_rules" (top 23))
    (D16 : DefAt K "_law_lacks" (top 24))
    (D17 : DefAt K "_law_reach" (top 25))
    (D18 : DefAt K "_law_asked" (top 26))
    (D19 : DefAt K "_law_walk" (top 27))
    (D20 : DefAt K "_law_derives" (top 28))
    (D21 : DefAt K "_law_papers" (top 29))
    (D22 : DefAt K "_law_is_paper" (top 30))
    (D23 : DefAt K "_law_kept" (top 31))
    (D24 : DefAt K "_law_is_two" (top 32))
    (D25 : DefAt K "_law_closed" (top 33))
    (D26 : DefAt K "_law_derived" (top 34))
    (D27 : DefAt K "_law_parted" (top 35))
    (D28 : DefAt K "_law_tables" (top 36))
    (D29 : DefAt K "_law_refuses" (top 37))
    (D30 : DefAt K "_law_with" (top 38))
    (D31 : DefAt K "_law_spoilt" (top 39))
    (D32 : DefAt K "_law_refusals" (top 40))
    (D33 : DefAt K "law" (top 41))
    : ∀ n, Tab cfg P w K mg base (runs 100000 ds n) (ER C) n := by
  refine table (ds := ds) (Pd.at ?_) (fun c x e => ?_) (fun x d hx => by cases hx) Fa.bl
  · exact .cons (ent X G D0 slook_names rfl mlook_names (fun _ _ _ _ _ _ us hl => match us, hl with | [_, _], _ => rfl)) (.cons (ent X G D1 slook_rules rfl mlook_rules (fun _ _ _ _ _ _ us hl => match us, hl with | [_, _], _ => rfl)) (.cons (ent X G D2 sall_in rfl mall_in (fun _ _ _ _ _ _ us hl => match us, hl with | [_, _], _ => rfl)) (.cons (ent X G D3 sreached rfl mreached (fun _ _ _ _ _ _ us hl => match us, hl with | [_, _], _ => rfl)) (.cons (ent X G D4 skeeps rfl mkeeps (fun _ _ _ _ _ _ us hl => match us, hl with | [_, _, _], _ => rfl)) (.cons (ent X G D5 sclosure rfl mclosure (fun _ _ _ _ _ _ us hl => match us, hl with | [_, _, _], _ => rfl)) (.cons (ent X G D6 sfollows rfl mfollows (fun _ _ _ _ _ _ us hl => match us, hl with | [_, _, _], _ => rfl)) (.cons (ent X G D7 sderivation rfl mderivation (fun _ _ _ _ _ _ us hl => match us, hl with | [_, _, _], _ => rfl)) (.cons (ent X G D8 sis_derivation rfl mis_derivation (fun _ _ _ _ _ _ us hl => match us, hl with | [_, _, _, _], _ => rfl)) (.cons (ent X G D9 stwo_rows rfl mtwo_rows (fun _ _ _ _ _ _ us hl => match us, hl with | [_, _, _], _ => rfl)) (.cons (ent X G D10 s_law_digits rfl m_law_digits (fun _ _ _ _ _ _ us hl => match us, hl with | [_], _ => rfl)) (.cons (ent X G D11 s_law_take rfl m_law_take (fun _ _ _ _ _ _ us hl => match us, hl with | [_, _], _ => rfl)) (.cons (ent X G D12 s_law_new_names rfl m_law_new_names (fun _ _ _ _ _ _ us hl => match us, hl with | [_, _], _ => rfl)) (.cons (ent X G D13 s_law_drawn_columns rfl m_law_drawn_columns (fun _ _ _ _ _ _ us hl => match us, hl with | [_], _ => rfl)) (.cons (ent X G D14 s_law_pick rfl m_law_pick (fun _ _ _ _ _ _ us hl => match us, hl with | [_, _, _], _ => rfl)) (.cons (ent X G D15 s_law_drawn_rules rfl m_law_drawn_rules (fun _ _ _ _ _ _ us hl => match us, hl with | [_, _], _ => rfl)) (.cons (ent X G D16 s_law_lacks rfl m_law_lacks (fun _ _ _ _ _ _ us hl => match us, hl with | [_, _], _ => rfl)) (.cons (ent X G D17 s_law_reach rfl m_law_reach (fun _ _ _ _ _ _ us hl => match us, hl with | [_, _, _], _ => rfl)) (.cons (ent X G D18 s_law_asked rfl m_law_asked (fun _ _ _ _ _ _ us hl => match us, hl with | [_, _, _], _ => rfl)) (.cons (ent X G D19 s_law_walk rfl m_law_walk (fun _ _ _ _ _ _ us hl => match us, hl with | [_, _], _ => rfl)) (.cons (ent X G D20 s_law_derives rfl m_law_derives (fun _ _ _ _ _ _ us hl => match us, hl with | [_, _, _], _ => rfl)) (.cons (ent X G D21 s_law_papers rfl m_law_papers (fun _ _ _ _ _ _ us hl => match us, hl with | [_, _, _], _ => rfl)) (.cons (ent X G D22 s_law_is_paper rfl m_law_is_paper (fun _ _ _ _ _ _ us hl => match us, hl with | [_, _, _], _ => rfl)) (.cons (ent X G D23 s_law_kept rfl m_law_kept (fun _ _ _ _ _ _ us hl => match us, hl with | [_, _, _], _ => rfl)) (.cons (ent X G D24 s_law_is_two rfl m_law_is_two (fun _ _ _ _ _ _ us hl => match us, hl with | [_, _], _ => rfl)) (.cons (ent X G D25 s_law_closed rfl m_law_closed (fun _ _ _ _ _ _ us hl => match us, hl with | [_, _, _], _ => rfl)) (.cons (ent X G D26 s_law_derived rfl m_law_derived (fun _ _ _ _ _ _ us hl => match us, hl with | [_, _, _, _], _ => rfl)) (.cons (ent X G D27 s_law_parted rfl m_law_parted (fun _ _ _ _ _ _ us hl => match us, hl with | [_, _, _], _ => rfl)) (.cons (ent X G D28 s_law_tables rfl m_law_tables (fun _ _ _ _ _ _ us hl => match us, hl with | [_, _, _, _], _ => rfl)) (.cons (ent_refuses X G Fa D29) (.cons (ent X G D30 s_law_with rfl m_law_with (fun _ _ _ _ _ _ us hl => match us, hl with | [_, _, _], _ => rfl)) (.cons (ent X G D31 s_law_spoilt rfl m_law_spoilt (fun _ _ _ _ _ _ us hl => match us, hl with | [_, _, _], _ => rfl)) (.cons (ent X G D32 s_law_refusals rfl m_law_refusals (fun _ _ _ _ _ _ us hl => match us, hl with | [_, _, _, _], _ => rfl)) (.cons (ent X G D33 slaw rfl mlaw (fun _ _ _ _ _ _ us hl => match us, hl with | [_], _ => rfl)) (.nil))))))))))))))))))))))))))))))))))
  · cases c with
    | zero =>
      cases e
      exact exn_ok Fa.T fun d cls dd F H o => ⟨rfl, o⟩
    | succ c => exact absurd e (by simp [cfg])
end
end K81
end
section
set_option Elab.async false
set_option linter.all false
set_option maxRecDepth 1000000
namespace K81
open PySem L2 Mi
def spLaw (K : Frag) : Sp := fun vs H Q _ => ∃ (a : Addr) (ns : List Int), vs = [.ref a] ∧ SqL K H a (ns.map V.int) ∧ ns.length ≤ 63 ∧ ∀ H', Q (.bl true) H'
theorem ints_at {F : Hp} : ∀ ns : List Int, AtL F (ns.map V.int) (ns.map D.int)
  | [] => .nil
  | n :: r => .cons (.int n) (ints_at r)
theorem law_sp {K : Frag} {C : Addr} (noL : ∀ a o, K.lookup a = some o → o.cls ≠ .type "list") (vs : List V) (H : Hp) (Q : VK) (E : XK) (h : spLaw K vs H Q E) : SpOf (ER C) 1 (runs 100000 ds 8 33) vs H Q E := by
  obtain ⟨a, ns, rfl, hS, hl, q⟩ := h
  obtain ⟨ts, ht⟩ := law_true ns hl
  have hR : Rd H a (.lst (ns.map V.int)) := by
    rcases hS with hS | ⟨o, its, n, ho, hc, _⟩
    · exact hS
    · exact absurd hc (noL a o ho)
  refine ⟨H, [.fz (.lst (ns.map D.int))], fun _ _ => False, Sub.refl H, rfl, rfl, fun i s v e ev => ?_, fun s hs => ?_, fun _ _ _ z => z.elim, fun b z => z.elim fun _ z => z.elim, ?_⟩
  · cases i with
    | zero => simp at e ev; subst e; subst ev; exact ⟨_, rfl, .lst hR (ints_at ns)⟩
    | succ i => simp at e
  · rw [List.mem_singleton.1 hs]; rfl
  · rw [ht]
    intro v F' H' fp' A _ _ r _ _ _ _
    cases r
    exact q H'
theorem all_mk {P : Program} {w : World} {K : Frag} {h : Heap} {mg : Str → Option Value} {fa C fI cc cda aT aB aN aV : Addr} (X : K.In h) (G : h.Ns mainGlobals mg) (hfa : mg "law" = some (.ref fa)) (noL : ∀ a o, K.lookup a = some o → o.cls ≠ .type "list") (Fa : Facts P K mg C fI cc cda aT aB aN aV)
    (D0 : DefAt K "look_names" (top 7))
    (D1 : DefAt K "look_rules" (top 8))
    (D2 : DefAt K "all_in" (top 9))
    (D3 : DefAt K "reached" (top 10))
    (D4 : DefAt K "keeps" (top 11))
    (D5 : DefAt K "closure" (top 12))
    (D6 : DefAt K "follows" (top 13))
    (D7 : DefAt K "derivation" (top 14))
    (D8 : DefAt K "is_derivation" (top 15))
    (D9 : DefAt K "two_rows" (top 16))
    (D10 : DefAt K "_law_digits" (top 18))
    (D11 : DefAt K "_law_take" (top 19))
    (D12 : DefAt K "_law_new_names" (top 20))
    (D13 : DefAt K "_law_drawn_columns" (top 21))
    (D14 : DefAt K "_law_pick" (top 22))
    (D15 : DefAt K "_law_drawn_rules" (top 23))
    (D16 : DefAt K "_law_lacks" (top 24))
    (D17 : DefAt K "_law_reach" (top 25))
    (D18 : DefAt K "_law_asked" (top 26))
    (D19 : DefAt K "_law_walk" (top 27))
    (D20 : DefAt K "_law_derives" (top 28))
    (D21 : DefAt K "_law_papers" (top 29))
    (D22 : DefAt K "_law_is_paper" (top 30))
    (D23 : DefAt K "_law_kept" (top 31))
    (D24 : DefAt K "_law_is_two" (top 32))
    (D25 : DefAt K "_law_closed" (top 33))
    (D26 : DefAt K "_law_derived" (top 34))
    (D27 : DefAt K "_law_parted" (top 35))
    (D28 : DefAt K "_law_tables" (top 36))
    (D29 : DefAt K "_law_refuses" (top 37))
    (D30 : DefAt K "_law_with" (top 38))
    (D31 : DefAt K "_law_spoilt" (top 39))
    (D32 : DefAt K "_law_refusals" (top 40))
    (D33 : DefAt K "law" (top 41))
    : ∃ fd : FuncData, (∀ (s : Shared) (v : Value), BindsTo s fd ⟨[v], []⟩ [(("script" : Str), v)]) ∧ ∀ base : Heap, K.In base → base.Ns mainGlobals mg → FnOk P w K mg base (CX P w) 8 fa fd [("script" : Str)] (spLaw K) := by
  have D := D33
  obtain ⟨f, oc, od, kV, dc, pm, an, cd, ct, sl, h1, h2, h3, h4⟩ := D
  have e := hfa.symm.trans (PySem.W.mg_of X G h1)
  cases e
  refine ⟨PySem.W.fnOf "law" "law" (defArgs (top 41)) (defBody (top 41)) (defScope (top 41)) .none kV dc pm an cd ct, fun s v => .of_eq rfl, fun base _ _ => ?_⟩
  have T := tab (P := P) (w := w) (base := base) X G Fa D0 D1 D2 D3 D4 D5 D6 D7 D8 D9 D10 D11 D12 D13 D14 D15 D16 D17 D18 D19 D20 D21 D22 D23 D24 D25 D26 D27 D28 D29 D30 D31 D32 D33 7
  exact (fd_ok (Wn := 100000) (fun_mk h2 h3 h4) slaw T rfl mlaw).imp fun vs H Q E h => law_sp noL vs H Q E h
end K81
end
section
set_option Elab.async false
set_option linter.all false
set_option maxRecDepth 1000000
set_option maxHeartbeats 400000
namespace K81
open PySem L2 Mi
theorem facts_mk {P : Program} {K : Frag} {h : Heap} {mg : Str → Option Value} {C fI cc cda aT aB aN aV N : Addr} {nm q : Str} {bs bm : List Value} {sn : List Str} {sub : List Value} {ab : Bool} {col : Option Bool} {dd : Option Addr} {m0 m1 m2 m3 m5 : Option Value}
    {oc doc pm ct ccl cl file' : Value} {od an cdd cld : Option Addr} {osl ccs csl : Array (Option Value)} {vs : Array Value} {file : Str} {tf : Tok} {a1 a2 s0 s1 s2 c1 f1 n1 j1 s3 s4 q1 q2 q3 q4 : Pos} (X : K.In h) (G : h.Ns mainGlobals mg)
    (aC : PySem.W.nsIn K mainGlobals "NoColumn" = some (some (.ref C)))
    (xL : K.lookup C = some (PySem.excClassObj nm q C N bs bm true sn sub ab col dd m0 m1 m2 m3 m5 "ValueError.__new__")) (xb : PySem.HandSPX.refsVE bm = true)
    (sup : PySem.W.ks_superIn K C C "__init__" = some (some (.builtin "ValueError.__init__")))
    (sa : PySem.W.findIn K (.ref C) "__setattr__" = some (some (.builtin "object.__setattr__"))) (ga : PySem.W.findIn K (.ref C) "__getattribute__" = some (some (.builtin "BaseException.__getattribute__"))) (gg : PySem.W.findIn K (.ref C) "__getattr__" = some none)
    (noN : PySem.W.findIn K (.ref C) "name" = some none) (iC : PySem.W.findIn K (.ref C) "__init__" = some (some (.ref fI))) (tC : PySem.W.typeIn K (.ref fI) = some (.type "function")) (kC : PySem.W.keepIn K (.ref C) = true)
    (exC : PySem.W.subIn K (.ref C) (.type "BaseException") = some true) (vaC : PySem.W.subIn K (.ref C) (.type "ValueError") = some true) (seC : PySem.W.mroIn K C (.ref C) = some true) (suC : PySem.W.subIn K (.ref C) (.ref C) = some true) (tyC : PySem.W.typeIn K (.ref C) = some (.type "type"))
    (op : PySem.W.nsIn K cStatics "thirdparty.any" = some none)
    (lf : K.lookup fI = some ⟨oc, od, .func (PySem.W.ksFn "__init__" "NoColumn.__init__" (Ox.iA "name" a1 a2) (Ox.iB "name" "no column is called " ⟨a1, a2, s0, s1, s2, c1, f1, n1, j1, s3, s4, q1, q2, q3, q4⟩) (Ox.iS "name") .none .none doc pm an (.ref cda) ct cc), osl⟩)
    (cf : PySem.W.codeIn K (.ref cda) "NoColumn.__init__" = true) (lc : K.lookup cda = some ⟨ccl, cdd, .fields vs, ccs⟩) (v2 : vs[2]? = some (.str file tf)) (hfile : ((P.main.file : Str) == file) = true) (cell : K.lookup cc = some ⟨cl, cld, .cell (some (.ref C)), csl⟩)
    (top' : (P.main.scope.names.lookup ("super" : Str)).isSome = false) (hl : (s2.endLine == s3.line) = true)
    (hbd : ∀ u v : Value, bindArgs (PySem.W.ksFn "__init__" "NoColumn.__init__" (Ox.iA "name" a1 a2) (Ox.iB "name" "no column is called " ⟨a1, a2, s0, s1, s2, c1, f1, n1, j1, s3, s4, q1, q2, q3, q4⟩) (Ox.iS "name") .none .none doc pm an (.ref cda) ct cc) ⟨[u, v], []⟩ = pure [(("self" : Str), u), (("name" : Str), v)])
    (hev : ∀ env : PySem.Env, ∃ pl : Sem Bool, eval (.Call (.Attribute (.Call (.Name "super" s0) [] [] s1) "__init__" s2) [.JoinedStr [.Constant (.str "no column is called ") 0 c1, .FormattedValue (.Name "name" n1) 114 none f1] j1] [] s3) env = (do
      let ov ← attributeBase (.Call (.Name "super" s0) [] [] s1) "__init__" env (eval (.Call (.Name "super" s0) [] [] s1) env)
      standAt s2.atName
      let (f, first) ← holding [ov] (getMethod ov "__init__" pl)
      callWith s3 f first (backTo s3 (starEach [.JoinedStr [.Constant (.str "no column is called ") 0 c1, .FormattedValue (.Name "name" n1) 114 none f1] j1] env)) []))
    (zs : PySem.W.nsIn K mainGlobals "super" = some none) (hd : PySem.W.hasDictIn K C = true)
    (ha : PySem.W.findIn K (.ref C) "__class__" = some (some (.builtin "object.__class__"))) (hn : PySem.W.specialIn K (.builtin "object.__class__") "__get__" = some (some (.builtin "getset_descriptor.__get__"))) (ht : PySem.W.takesIn K (.builtin "object.__class__") = some true) (hm : PySem.W.mroIn K C (.type "object") = some true)
    (gT : PySem.W.nsIn K mainGlobals "Twin" = some (some (.ref aT))) (gB : PySem.W.nsIn K mainGlobals "BadName" = some (some (.ref aB))) (gN : PySem.W.nsIn K mainGlobals "NotAValue" = some (some (.ref aN))) (gV : PySem.W.nsIn K mainGlobals "ViewError" = some (some (.ref aV))) (gE : PySem.W.nsIn K mainGlobals "ValueError" = some none)
    (kT : PySem.W.kitOne K (.ref C) (.ref aT) = some false) (kB : PySem.W.kitOne K (.ref C) (.ref aB) = some false) (kN : PySem.W.kitOne K (.ref C) (.ref aN) = some false) (kV : PySem.W.kitOne K (.ref C) (.ref aV) = some true) (kE : PySem.W.kitOne K (.ref C) (.type "ValueError") = some true)
    (z0 : PySem.W.nsIn K mainGlobals "len" = some none)
    (z1 : PySem.W.nsIn K mainGlobals "int" = some none)
    (z2 : PySem.W.nsIn K mainGlobals "abs" = some none)
    (z3 : PySem.W.nsIn K mainGlobals "all" = some none)
    (z4 : PySem.W.nsIn K mainGlobals "any" = some none)
    (z5 : PySem.W.nsIn K mainGlobals "sum" = some none)
    (z6 : PySem.W.nsIn K mainGlobals "tuple" = some none)
    (z7 : PySem.W.nsIn K mainGlobals "list" = some none)
    (z8 : PySem.W.nsIn K mainGlobals "max" = some none)
    (z9 : PySem.W.nsIn K mainGlobals "min" = some none)
    (z10 : PySem.W.nsIn K mainGlobals "reversed" = some none)
    (z11 : PySem.W.nsIn K mainGlobals "isinstance" = some none)
    (z12 : PySem.W.nsIn K mainGlobals "range" = some none)
    (z13 : PySem.W.nsIn K mainGlobals "enumerate" = some none)
    (z14 : PySem.W.nsIn K mainGlobals "bool" = some none)
    (z15 : PySem.W.nsIn K mainGlobals "str" = some none)
    (z16 : PySem.W.nsIn K mainGlobals "dict" = some none)
    : Facts P K mg C fI cc cda aT aB aN aV where
  T := { gC := PySem.W.mg_of X G aC, cls := ⟨nm, q, N, bs, bm, sn, sub, ab, col, dd, m0, m1, m2, m3, m5, xL, xb⟩, sup := sup, sa := sa, ga := ga, gg := gg, noN := noN, iC := iC, tC := tC, kC := kC, exC := exC, vaC := vaC, seC := seC, tyC := tyC,
         opC := fun M h' X' => PySem.W.looks_opaque X' op, fn := ⟨oc, od, doc, pm, an, ct, osl, ⟨a1, a2, s0, s1, s2, c1, f1, n1, j1, s3, s4, q1, q2, q3, q4⟩, lf, cf, hbd, hev⟩, code := ⟨ccl, cdd, vs, ccs, file, tf, lc, v2, hfile⟩, cell := ⟨cl, cld, csl, cell⟩, top := top', gs := PySem.W.mg_none_of X G zs,
         nsup := by decide +kernel, ncls := by decide +kernel, ats := ⟨by decide +kernel, by decide +kernel, by decide +kernel⟩ }
  hd := hd
  EC := ⟨ga, gg, exC, hd, ha, hn, ht, hm⟩
  gT := PySem.W.mg_of X G gT
  gB := PySem.W.mg_of X G gB
  gN := PySem.W.mg_of X G gN
  gV := PySem.W.mg_of X G gV
  gE := PySem.W.mg_none_of X G gE
  kT := kT
  kB := kB
  kN := kN
  kV := kV
  kE := kE
  ex := PySem.W.exm_ref exC hd tyC suC
  bl := fun x hx => by
    simp only [List.mem_cons, List.not_mem_nil, or_false] at hx
    rcases hx with rfl | rfl | rfl | rfl | rfl | rfl | rfl | rfl | rfl | rfl | rfl | rfl | rfl | rfl | rfl | rfl | rfl
    · exact PySem.W.mg_none_of X G z0
    · exact PySem.W.mg_none_of X G z1
    · exact PySem.W.mg_none_of X G z2
    · exact PySem.W.mg_none_of X G z3
    · exact PySem.W.mg_none_of X G z4
    · exact PySem.W.mg_none_of X G z5
    · exact PySem.W.mg_none_of X G z6
    · exact PySem.W.mg_none_of X G z7
    · exact PySem.W.mg_none_of X G z8
    · exact PySem.W.mg_none_of X G z9
    · exact PySem.W.mg_none_of X G z10
    · exact PySem.W.mg_none_of X G z11
    · exact PySem.W.mg_none_of X G z12
    · exact PySem.W.mg_none_of X G z13
    · exact PySem.W.mg_none_of X G z14
    · exact PySem.W.mg_none_of X G z15
    · exact PySem.W.mg_none_of X G z16
end K81
end
section
set_option Elab.async false
set_option linter.all false
set_option maxRecDepth 1000000
namespace K81
open PySem L2 Mi
theorem def_mk {K : Frag} {x : Str} {st : Stmt} {f : Addr} {oc : Value} {od : Option Addr} {kV dc pm : Value} {an : Option Addr} {cd ct : Value} {sl : Array (Option Value)}
    (a : PySem.W.nsIn K mainGlobals x = some (some (.ref f))) (l : K.lookup f = some ⟨oc, od, .func (PySem.W.fnOf x x (defArgs st) (defBody st) (defScope st) .none kV dc pm an cd ct), sl⟩) (c : PySem.W.codeIn K cd x = true) (k : PySem.W.keepIn K (.ref f) = true) : DefAt K x st :=
  ⟨f, oc, od, kV, dc, pm, an, cd, ct, sl, a, l, c, k⟩
theorem noL_of {K : Frag} (h : (K.all fun p => match p.2.cls with | .type s => s != "list" | _ => true) = true) : ∀ a o, K.lookup a = some o → o.cls ≠ .type "list" := by
  intro a o e hc
  induction K with
  | nil => cases e
  | cons p K ih =>
    obtain ⟨k, v⟩ := p
    simp only [List.all_cons, Bool.and_eq_true] at h
    simp only [List.lookup_cons] at e
    split at e
    · cases e
      have := h.1
      rw [hc] at this
      simp at this
    · exact ih h.2 e
end K81
end
section
set_option Elab.async false
set_option linter.all false
set_option maxRecDepth 100000
set_option maxHeartbeats 0
open PySem PySem.W PyProof.Rows
theorem PySem.Challenge.cw_viewsback_k81_closures_and_two_rows_holds : PySem.Challenge.rw_viewsback_k81_closures_and_two_rows.Holds := by
  w_on; o_law; k_head; (case hw => w_witness2)
  k_fill
  refine L2.walk_of (l := PySem.Challenge.rw_viewsback_k81_closures_and_two_rows) (n := 63) (k := 8) (x := "script") (CX := fun w => L2.CX PySem.Challenge.rw_viewsback_k81_closures_and_two_rows.prog w) (sp := fun w => K81.spLaw _) rfl (by decide) rfl ⟨rfl, by decide, by decide⟩ (fun w h Y => PySem.W.kIn_of Y) ?F (fun w H a ns hl _ hS => ⟨a, ns, rfl, hS, hl, fun _ => rfl⟩) ?Z
  case Z =>
    intro w H s e s' z
    obtain ⟨_, _, _, _, _, _, _, _, _, _, _, _, z⟩ := z
    exact z
  case F =>
    intro w mg fa h KX G hmg
    refine' K81.all_mk KX G hmg ?noL (K81.facts_mk KX G ?aC_ ?xL_ ?xb_ ?sup_ ?sa_ ?ga_ ?gg_ ?noN_ ?iC_ ?tC_ ?kC_ ?exC_ ?vaC_ ?seC_ ?suC_ ?tyC_ ?op_ ?lf_ ?cf_ ?lc_ ?v2_ ?hfile_ ?cell_ ?top'_ ?hl_ ?hbd_ ?hev_ ?zs_ ?hd_ ?ha_ ?hn_ ?ht_ ?hm_ ?gT_ ?gB_ ?gN_ ?gV_ ?gE_ ?kT_ ?kB_ ?kN_ ?kV_ ?kE_ ?z0_ ?z1_ ?z2_ ?z3_ ?z4_ ?z5_ ?z6_ ?z7_ ?z8_ ?z9_ ?z10_ ?z11_ ?z12_ ?z13_ ?z14_ ?z15_ ?z16_) ?D0 ?D1 ?D2 ?D3 ?D4 ?D5 ?D6 ?D7 ?D8 ?D9 ?D10 ?D11 ?D12 ?D13 ?D14 ?D15 ?D16 ?D17 ?D18 ?D19 ?D20 ?D21 ?D22 ?D23 ?D24 ?D25 ?D26 ?D27 ?D28 ?D29 ?D30 ?D31 ?D32 ?D33
    (case aC_ => k_is); (case xL_ => k_is); (case xb_ => first | rfl | decide +kernel)
    (case sup_ => ks_is)
    (case sa_ => k_is); (case ga_ => k_is); (case gg_ => k_is); (case noN_ => k_is); (case iC_ => k_is); (case tC_ => k_is); (case kC_ => k_is); (case exC_ => k_is); (case vaC_ => k_is); (case seC_ => k_is); (case suC_ => first | rfl | k_is); (case tyC_ => k_is); (case op_ => k_is)
    (case lf_ => k_is); (case cf_ => k_is); (case lc_ => k_is)
    (case v2_ => rfl); (case hfile_ => first | rfl | decide +kernel); (case cell_ => k_is); (case top'_ => first | rfl | decide +kernel); (case hl_ => first | rfl | decide); (case hbd_ => exact fun _ _ => rfl); (case hev_ => exact fun _ => ⟨_, rfl⟩)
    (case zs_ => k_is); (case hd_ => k_is); (case ha_ => k_is); (case hn_ => k_is); (case ht_ => k_is); (case hm_ => k_is); (case gT_ => k_is); (case gB_ => k_is); (case gN_ => k_is); (case gV_ => k_is); (case gE_ => k_is)
    (case kT_ => first | kernel_rfl | k_is); (case kB_ => first | kernel_rfl | k_is); (case kN_ => first | kernel_rfl | k_is); (case kV_ => first | kernel_rfl | k_is); (case kE_ => first | kernel_rfl | k_is)
    (case z0_ => k_is); (case z1_ => k_is); (case z2_ => k_is); (case z3_ => k_is); (case z4_ => k_is); (case z5_ => k_is); (case z6_ => k_is); (case z7_ => k_is); (case z8_ => k_is); (case z9_ => k_is); (case z10_ => k_is); (case z11_ => k_is); (case z12_ => k_is); (case z13_ => k_is); (case z14_ => k_is); (case z15_ => k_is); (case z16_ => k_is)
    (case noL => first | (refine K81.noL_of ?_; kernel_rfl) | (refine K81.noL_of ?_; rfl) | (refine K81.noL_of ?_; decide +kernel))
    (case D0 => refine' K81.def_mk ?a ?l ?c ?k; (case a => k_is); (case l => k_is); (case c => k_is); (case k => k_is))
    (case D1 => refine' K81.def_mk ?a ?l ?c ?k; (case a => k_is); (case l => k_is); (case c => k_is); (case k => k_is))
    (case D2 => refine' K81.def_mk ?a ?l ?c ?k; (case a => k_is); (case l => k_is); (case c => k_is); (case k => k_is))
    (case D3 => refine' K81.def_mk ?a ?l ?c ?k; (case a => k_is); (case l => k_is); (case c => k_is); (case k => k_is))
    (case D4 => refine' K81.def_mk ?a ?l ?c ?k; (case a => k_is); (case l => k_is); (case c => k_is); (case k => k_is))
    (case D5 => refine' K81.def_mk ?a ?l ?c ?k; (case a => k_is); (case l => k_is); (case c => k_is); (case k => k_is))
    (case D6 => refine' K81.def_mk ?a ?l ?c ?k; (case a => k_is); (case l => k_is); (case c => k_is); (case k => k_is))
    (case D7 => refine' K81.def_mk ?a ?l ?c ?k; (case a => k_is); (case l => k_is); (case c => k_is); (case k => k_is))
    (case D8 => refine' K81.def_mk ?a ?l ?c ?k; (case a => k_is); (case l => k_is); (case c => k_is); (case k => k_is))
    (case D9 => refine' K81.def_mk ?a ?l ?c ?k; (case a => k_is); (case l => k_is); (case c => k_is); (case k => k_is))
    (case D10 => refine' K81.def_mk ?a ?l ?c ?k; (case a => k_is); (case l => k_is); (case c => k_is); (case k => k_is))
    (case D11 => refine' K81.def_mk ?a ?l ?c ?k; (case a => k_is); (case l => k_is); (case c => k_is); (case k => k_is))
    (case D12 => refine' K81.def_mk ?a ?l ?c ?k; (case a => k_is); (case l => k_is); (case c => k_is); (case k => k_is))
    (case D13 => refine' K81.def_mk ?a ?l ?c ?k; (case a => k_is); (case l => k_is); (case c => k_is); (case k => k_is))
    (case D14 => refine' K81.def_mk ?a ?l ?c ?k; (case a => k_is); (case l => k_is); (case c => k_is); (case k => k_is))
    (case D15 => refine' K81.def_mk ?a ?l ?c ?k; (case a => k_is); (case l => k_is); (case c => k_is); (case k => k_is))
    (case D16 => refine' K81.def_mk ?a ?l ?c ?k; (case a => k_is); (case l => k_is); (case c => k_is); (case k => k_is))
    (case D17 => refine' K81.def_mk ?a ?l ?c ?k; (case a => k_is); (case l => k_is); (case c => k_is); (case k => k_is))
    (case D18 => refine' K81.def_mk ?a ?l ?c ?k; (case a => k_is); (case l => k_is); (case c => k_is); (case k => k_is))
    (case D19 => refine' K81.def_mk ?a ?l ?c ?k; (case a => k_is); (case l => k_is); (case c => k_is); (case k => k_is))
    (case D20 => refine' K81.def_mk ?a ?l ?c ?k; (case a => k_is); (case l => k_is); (case c => k_is); (case k => k_is))
    (case D21 => refine' K81.def_mk ?a ?l ?c ?k; (case a => k_is); (case l => k_is); (case c => k_is); (case k => k_is))
    (case D22 => refine' K81.def_mk ?a ?l ?c ?k; (case a => k_is); (case l => k_is); (case c => k_is); (case k => k_is))
    (case D23 => refine' K81.def_mk ?a ?l ?c ?k; (case a => k_is); (case l => k_is); (case c => k_is); (case k => k_is))
    (case D24 => refine' K81.def_mk ?a ?l ?c ?k; (case a => k_is); (case l => k_is); (case c => k_is); (case k => k_is))
    (case D25 => refine' K81.def_mk ?a ?l ?c ?k; (case a => k_is); (case l => k_is); (case c => k_is); (case k => k_is))
    (case D26 => refine' K81.def_mk ?a ?l ?c ?k; (case a => k_is); (case l => k_is); (case c => k_is); (case k => k_is))
    (case D27 => refine' K81.def_mk ?a ?l ?c ?k; (case a => k_is); (case l => k_is); (case c => k_is); (case k => k_is))
    (case D28 => refine' K81.def_mk ?a ?l ?c ?k; (case a => k_is); (case l => k_is); (case c => k_is); (case k => k_is))
    (case D29 => refine' K81.def_mk ?a ?l ?c ?k; (case a => k_is); (case l => k_is); (case c => k_is); (case k => k_is))
    (case D30 => refine' K81.def_mk ?a ?l ?c ?k; (case a => k_is); (case l => k_is); (case c => k_is); (case k => k_is))
    (case D31 => refine' K81.def_mk ?a ?l ?c ?k; (case a => k_is); (case l => k_is); (case c => k_is); (case k => k_is))
    (case D32 => refine' K81.def_mk ?a ?l ?c ?k; (case a => k_is); (case l => k_is); (case c => k_is); (case k => k_is))
    (case D33 => refine' K81.def_mk ?a ?l ?c ?k; (case a => k_is); (case l => k_is); (case c => k_is); (case k => k_is))
    all_goals exact Value.none
end
