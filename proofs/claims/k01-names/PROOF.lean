import PyProof.Rows.All
import Wide.All
import OpenK.AllK
import Wide.FinOn
import HandS.ForMost
import HandS.ForExc
import HandS.Wide
import HandS.IsInst
import HandS.Flow
import HandS.Style
import HandS.TupAny
import HandS.TupMul
import HandS.Deep
import HandS.Conv
import HandS.TryMany
import HandS.ExcField
import HandS.ExcInit
import HandS.Codes
import HandS.Lambda
import HandS.EndTab
import PyProof.ListStr
import PyProof.P3In
import HandS.More
import KE.KExcInit
import HandS.EndBits
import PySem.Challenge.RW_timesdear_k01_names_and_fractions
set_option Elab.async false
set_option linter.all false
set_option maxRecDepth 100000
set_option maxHeartbeats 8000000
/-! The mirror evaluator: values as trees, a heap of mutable objects, a small syntax, its meaning. -/
namespace MX
open PySem

/-- data: what never changes is a tree; a mutable object is its number -/
inductive D where
  | non | bl (b : Bool) | int (i : Int) | str (x : Str) | tup (xs : List D) | ref (r : Nat) | scr (ns : List Int)
  deriving Inhabited

/-- a mutable object -/
inductive MO where
  | lst (xs : List D) | dct (kvs : List (D × D)) | ins (c : Nat) (fs : List (Nat × D))
  deriving Inhabited
abbrev Hh := List MO

/-- an exception in flight: its class, its fields -/
structure XV where
  cls : Nat
  fs : List (Nat × D)
inductive R (α : Type) where
  | ok (a : α) (h : Hh) | exc (x : XV) (h : Hh) | bad
abbrev M (α : Type) := Hh → R α
namespace M
def pure {α : Type} (a : α) : M α := fun h => .ok a h
def bind {α β : Type} (m : M α) (f : α → M β) : M β := fun h => match m h with
  | .ok a h' => f a h'
  | .exc x h' => .exc x h'
  | .bad => .bad
def bad {α : Type} : M α := fun _ => .bad
def opt {α : Type} (o : Option α) : M α := fun h => match o with
  | some a => .ok a h
  | none => .bad
end M

/-! ### heap -/
def alloc (o : MO) : M D := fun h => .ok (.ref h.length) (h ++ [o])
def getO (h : Hh) : D → Option MO
  | .ref r => h[r]?
  | _ => none
def seqOf (h : Hh) : D → Option (List D)
  | .tup xs => some xs
  | .ref r => match h[r]? with
    | some (.lst xs) => some xs
    | _ => none
  | .scr ns => some (ns.map .int)
  | _ => none

/-! ### data as the library's data -/
def optMap {α β : Type} (f : α → Option β) : List α → Option (List β)
  | [] => some []
  | x :: xs => match f x with
    | none => none
    | some y => match optMap f xs with
      | none => none
      | some ys => some (y :: ys)
def toP (h : Hh) : Nat → D → Option PyData
  | 0, _ => none
  | _ + 1, .non => some .none
  | _ + 1, .bl b => some (.bool b)
  | _ + 1, .int i => some (.int i)
  | _ + 1, .str x => some (.str x)
  | k + 1, .tup xs => match optMap (toP h k) xs with
    | some ys => some (.tuple ys)
    | none => none
  | k + 1, .ref r => match h[r]? with
    | some (.lst xs) => match optMap (toP h k) xs with
      | some ys => some (.list ys)
      | none => none
    | some (.dct kvs) => match optMap (fun p => match toP h k p.1, toP h k p.2 with
        | some a, some b => some (a, b)
        | _, _ => none) kvs with
      | some ys => some (.dict ys)
      | none => none
    | _ => none
  | _ + 1, .scr _ => none
/-- how deep data are looked at -/
def deep : Nat := 20

/-! ### operations -/
inductive BOp | add | sub | mul | fdiv | mod | pow
  deriving DecidableEq
inductive COp | eq | ne | lt | le | gt | ge | isin | notin
  deriving DecidableEq
inductive Ty | int | bool | str | tuple | list | dict
  deriving DecidableEq

def addD : D → D → M D
  | .int i, .int j => M.pure (.int (i + j))
  | .str x, .str y => if x.length + y.length ≤ sizeLine then M.pure (.str (x ++ y)) else M.bad
  | .tup xs, .tup ys => if xs.length + ys.length ≤ sizeLine then M.pure (.tup (xs ++ ys)) else M.bad
  | .ref a, .ref b => fun h => match h[a]?, h[b]? with
    | some (.lst xs), some (.lst ys) => if xs.length + ys.length ≤ sizeLine then alloc (.lst (xs ++ ys)) h else .bad
    | _, _ => .bad
  | _, _ => M.bad
def mulD : D → D → M D
  | .int i, .int j => if i.natAbs.log2 + j.natAbs.log2 < 1000000 then M.pure (.int (i * j)) else M.bad
  | .ref a, .int k => fun h => match h[a]? with
    | some (.lst xs) => if 0 ≤ k ∧ k < 1000000 ∧ xs.length * k.toNat ≤ sizeLine then alloc (.lst ((List.replicate k.toNat xs).flatten)) h else .bad
    | _ => .bad
  | _, _ => M.bad
def fdivD : D → D → M D
  | .int i, .int j => if 0 < j ∧ j.natAbs.log2 < 9000 then M.pure (.int (i / j)) else M.bad
  | _, _ => M.bad
def modD : D → D → M D
  | .int i, .int j => if 0 < j then M.pure (.int (i % j)) else M.bad
  | _, _ => M.bad
def powD : D → D → M D
  | .int i, .int j => if 0 ≤ j ∧ ((i.natAbs.log2 + 1 : Nat) : Int) * j ≤ 1000000 then M.pure (.int (i ^ j.toNat)) else M.bad
  | _, _ => M.bad
def binD : BOp → D → D → M D
  | .add, a, b => addD a b
  | .sub, .int i, .int j => M.pure (.int (i - j))
  | .sub, _, _ => M.bad
  | .mul, a, b => mulD a b
  | .fdiv, a, b => fdivD a b
  | .mod, a, b => modD a b
  | .pow, a, b => powD a b
def eqD (h : Hh) (a b : D) : Option Bool := match toP h deep a, toP h deep b with
  | some p, some q => if p.canLay0 && q.canLay0 then some (PyData.eqv p q) else none
  | _, _ => none
def inD (h : Hh) : D → D → Option Bool
  | .str x, .str y => match x.cps.toList with
    | [c] => some (decide (c ∈ y.cps.toList))
    | _ => none
  | a, b => match seqOf h b with
    | some ys => match toP h deep a, optMap (toP h deep) ys with
      | some p, some qs => if p.canLay0 && PyData.canLayAll0 qs then some (qs.any fun q => PyData.eqv q p) else none
      | _, _ => none
    | none => none
def cmpD (o : COp) (a b : D) : M D := fun h => match o with
  | .eq => match eqD h a b with | some k => .ok (.bl k) h | none => .bad
  | .ne => match eqD h a b with | some k => .ok (.bl (!k)) h | none => .bad
  | .isin => match inD h a b with | some k => .ok (.bl k) h | none => .bad
  | .notin => match inD h a b with | some k => .ok (.bl (!k)) h | none => .bad
  | .lt => match a, b with | .int i, .int j => .ok (.bl (decide (i < j))) h | _, _ => .bad
  | .le => match a, b with | .int i, .int j => .ok (.bl (decide (i ≤ j))) h | _, _ => .bad
  | .gt => match a, b with | .int i, .int j => .ok (.bl (decide (j < i))) h | _, _ => .bad
  | .ge => match a, b with | .int i, .int j => .ok (.bl (decide (j ≤ i))) h | _, _ => .bad
def truD (h : Hh) : D → Option Bool
  | .non => some false
  | .bl b => some b
  | .int i => some (i != 0)
  | .str x => if x.length ≤ sizeLine then some (x.length != 0) else none
  | .tup xs => some (!xs.isEmpty)
  | .ref r => match h[r]? with
    | some (.lst xs) => some (!xs.isEmpty)
    | some (.dct kvs) => some (!kvs.isEmpty)
    | _ => none
  | .scr _ => none
def tru (d : D) : M Bool := fun h => match truD h d with
  | some b => .ok b h
  | none => .bad
def isTy (h : Hh) (t : Ty) : D → Option Bool
  | .non => some false
  | .bl _ => some (t == .int || t == .bool)
  | .int _ => some (t == .int)
  | .str _ => some (t == .str)
  | .tup _ => some (t == .tuple)
  | .ref r => match h[r]? with
    | some (.lst _) => some (t == .list)
    | some (.dct _) => some (t == .dict)
    | _ => none
  | .scr _ => none

def idxD (a i : D) : M D := fun h => match i with
  | .int k => match seqOf h a with
    | some xs => match L2.atI xs k with
      | some d => .ok d h
      | none => .bad
    | none => .bad
  | _ => .bad
/-- a[i] = v -/
def setD (a i v : D) : M Unit := fun h => match a, i with
  | .ref r, .int k => match h[r]? with
    | some (.lst xs) => match L2.ixN xs.length k with
      | some j => .ok () (h.set r (.lst (xs.set j v)))
      | none => .bad
    | _ => .bad
  | _, _ => .bad

/-! ### built-in functions -/
inductive Bt | len | abs | max | min | int | list | tuple | repr | all
  deriving DecidableEq
inductive Bm | append | insert | join
  deriving DecidableEq
def lenD (h : Hh) : D → Option Nat
  | .str x => if x.length ≤ sizeLine then some x.length else none
  | .ref r => match h[r]? with
    | some (.dct kvs) => some kvs.length
    | some (.lst xs) => some xs.length
    | _ => none
  | .tup xs => some xs.length
  | .scr ns => some ns.length
  | _ => none
def bools : List D → Option (List Bool)
  | [] => some []
  | .bl b :: r => (bools r).map (b :: ·)
  | _ :: _ => none
def strsOf : List D → Option (List Str)
  | [] => some []
  | .str x :: r => (strsOf r).map (x :: ·)
  | _ :: _ => none
def flatP : PyData → Bool
  | .none => true
  | .bool _ => true
  | .int _ => true
  | .str _ => true
  | _ => false
/-- no dict, or a dict of flat things alone -/
def repOk : PyData → Bool
  | .dict kvs => kvs.all fun p => flatP p.1 && flatP p.2
  | p => !p.hasDict
def reprD (h : Hh) (d : D) : Option Str := match toP h deep d with
  | some p => if p.showable && repOk p && decide (p.shown.length ≤ sizeLine) then some p.shown else none
  | none => none
def sign1 (c : Nat) : D := .str ⟨#[c]⟩
def bt1 (f : D → M D) : List D → M D
  | [d] => f d
  | _ => M.bad
def bt2 (f : D → D → M D) : List D → M D
  | [a, b] => f a b
  | _ => M.bad
def intsM (f : Int → Int → Int) : D → D → M D
  | .int i, .int j => M.pure (.int (f i j))
  | _, _ => M.bad
def btD : Bt → List D → M D
  | .len => bt1 fun d h => match lenD h d with
    | some n => .ok (.int n) h
    | none => .bad
  | .abs => bt1 fun d => match d with
    | .int i => M.pure (.int (if i < 0 then -i else i))
    | _ => M.bad
  | .max => bt2 (intsM fun i j => if j > i then j else i)
  | .min => bt2 (intsM fun i j => if j < i then j else i)
  | .int => bt1 fun d => match d with
    | .int i => M.pure (.int i)
    | .bl k => M.pure (.int (if k then 1 else 0))
    | _ => M.bad
  | .list => bt1 fun d h => match d with
    | .str x => if x.cps.size ≤ sizeLine then alloc (.lst (x.cps.toList.map sign1)) h else .bad
    | d => match seqOf h d with
      | some xs => alloc (.lst xs) h
      | none => .bad
  | .tuple => bt1 fun d h => match seqOf h d with
    | some xs => .ok (.tup xs) h
    | none => .bad
  | .repr => bt1 fun d h => match reprD h d with
    | some x => .ok (.str x) h
    | none => .bad
  | .all => bt1 fun d h => match d with
    | .ref r => match h[r]? with
      | some (.lst xs) => match bools xs with
        | some bs => .ok (.bl (bs.all id)) h
        | none => .bad
      | _ => .bad
    | _ => .bad
def appendM (r : Nat) (d : D) : M D := fun h => match h[r]? with
  | some (.lst xs) => if xs.length < sizeLine then .ok .non (h.set r (.lst (xs ++ [d]))) else .bad
  | _ => .bad
def insertM (r : Nat) (i : Int) (d : D) : M D := fun h => match h[r]? with
  | some (.lst xs) => if xs.length < sizeLine ∧ 0 ≤ i ∧ i < 1000000 then .ok .non (h.set r (.lst (xs.take i.toNat ++ [d] ++ xs.drop i.toNat))) else .bad
  | _ => .bad
def joinM (a : Str) (d : D) : M D := fun h => match seqOf h d with
  | some xs => match strsOf xs with
    | some ys => if (ys.map (·.length)).sum + ys.length * a.length ≤ 16777216 then .ok (.str (Txt.join a ys)) h else .bad
    | none => .bad
  | none => .bad
def bmD : Bm → D → List D → M D
  | .append => fun o => match o with
    | .ref r => bt1 (appendM r)
    | _ => fun _ => M.bad
  | .insert => fun o => match o with
    | .ref r => bt2 fun i d => match i with
      | .int k => insertM r k d
      | _ => M.bad
    | _ => fun _ => M.bad
  | .join => fun o => match o with
    | .str a => bt1 (joinM a)
    | _ => fun _ => M.bad

/-- the receiver is of the method's kind -/
def bmK : Bm → D → M Unit
  | .join, .str _ => M.pure ()
  | .append, .ref r => fun h => match h[r]? with
    | some (.lst _) => .ok () h
    | _ => .bad
  | .insert, .ref r => fun h => match h[r]? with
    | some (.lst _) => .ok () h
    | _ => .bad
  | _, _ => M.bad

/-! ### the small syntax -/
mutual
inductive Tg where
  | name (i : Nat) | tup (ts : Tgs)
inductive Tgs where
  | nil | cons (t : Tg) (ts : Tgs)
end
mutual
inductive CE where
  | slot (i : Nat) | con (d : D)
  | bin (o : BOp) (a b : CE) | neg (a : CE) | notE (a : CE) | andE (a b : CE) | orE (a b : CE)
  | cmp (o : COp) (a b : CE) | isN (a : CE) | notN (a : CE) | chain (o1 o2 : COp) (a b c : CE) | ife (t a b : CE)
  | tup (es : CEs) | lst (es : CEs) | edct
  | idx (a i : CE) | rev (a : CE)
  | call (f : Nat) (es : CEs) | bt (b : Bt) (es : CEs) | bm (m : Bm) (o : CE) (es : CEs)
  | isi (a : CE) (t : Ty)
  | comp (elt : CE) (own : List Nat) (tg : Tg) (it : It) (cond : CEs)
  | lam (g : Nat) (body : CE) | act | xat (f : Nat)
inductive CEs where
  | nil | cons (e : CE) (es : CEs)
inductive It where
  | seq (e : CE) | rng (e : CE)
end
mutual
inductive CS where
  | ret (e : CE) | retN | expr (e : CE) | asg (t : Tg) (e : CE) | par (is : List Nat) (es : CEs) | sets (o i e : CE)
  | ifS (c : CE) (a b : CSs) | forS (t : Tg) (it : It) (body : CSs) | whileS (c : CE) (body : CSs)
  | raiseM (c : Nat) | raiseI (c f : Nat) (e : CE) | tryS (body : CSs) (hs : Hds) | pass | brk | cnt
inductive CSs where
  | nil | cons (s : CS) (ss : CSs)
inductive Hds where
  | nil | cons (c : Nat) (as : Option Nat) (suite : CSs) (hs : Hds)
end

/-! ### meaning -/
abbrev Env := List (Option D)
structure Cl where
  call : Nat → List D → M D
  callL : Nat → M D → M D
structure FD where
  thk : Bool
  np : Nat
  ns : Nat
  body : CSs
structure Pg where
  fns : List FD
  sub : Nat → Nat → Bool
  W : Nat
structure Ev where
  pg : Pg
  l : List Cl
  thk : Option (M D)
  xc : Option XV

inductive Wk where
  | tup (xs : List D) | lst (r i k : Nat) | str (cs : List Nat) | rng (lo : Int) (n : Nat)
def Wk.len : Wk → Nat
  | .tup xs => xs.length
  | .lst _ _ k => k
  | .str cs => cs.length
  | .rng _ n => n
def Wk.next (h : Hh) : Wk → Option (Option (D × Wk))
  | .tup [] => some none
  | .tup (d :: r) => some (some (d, .tup r))
  | .str [] => some none
  | .str (c :: r) => some (some (sign1 c, .str r))
  | .rng _ 0 => some none
  | .rng lo (n + 1) => some (some (.int lo, .rng (lo + 1) n))
  | .lst r i k => match seqOf h (.ref r) with
    | some ys => if ys.length = i + k then
        match k, ys[i]? with
        | 0, _ => some none
        | k + 1, some d => some (some (d, .lst r (i + 1) k))
        | _ + 1, none => none
      else none
    | none => none
def wkOf (d : D) : M Wk := fun h => match d with
  | .tup xs => .ok (.tup xs) h
  | .str x => if x.length ≤ sizeLine then .ok (.str x.cps.toList) h else .bad
  | .ref r => match seqOf h (.ref r) with
    | some xs => .ok (.lst r 0 xs.length) h
    | none => .bad
  | _ => .bad
def wkRng (d : D) : M Wk := fun h => match d with
  | .int n => if -(2 ^ 62) ≤ n ∧ n < 2 ^ 62 then .ok (.rng 0 n.toNat) h else .bad
  | _ => .bad

def wipeE (env : Env) : List Nat → Env
  | [] => env
  | v :: vs => (wipeE env vs).set v none
mutual
def asgT : Tg → D → Env → Option Env
  | .name i, d, env => some (env.set i (some d))
  | .tup ts, d, env => match d with
    | .tup xs => asgTs ts xs env
    | _ => none
def asgTs : Tgs → List D → Env → Option Env
  | .nil, [], env => some env
  | .cons t ts, d :: r, env => match asgT t d env with
    | some env' => asgTs ts r env'
    | none => none
  | _, _, _ => none
end
def app (r : Nat) (d : D) : M Unit := fun h => match h[r]? with
  | some (.lst xs) => if xs.length < sizeLine then .ok () (h.set r (.lst (xs ++ [d]))) else .bad
  | _ => .bad
/-- nothing is let out -/
def noX {α : Type} (m : M α) : M α := fun h => match m h with
  | .exc _ _ => .bad
  | r => r
/-- a comprehension's loop: a turn gives an item or none -/
def loopC (turn : D → M (Option D)) (r : Nat) : Nat → Wk → M Unit
  | n, wk => fun h => match wk.next h with
    | none => .bad
    | some none => .ok () h
    | some (some (d, wk')) => match n with
      | 0 => .bad
      | n + 1 => M.bind (turn d) (fun o => match o with
        | some y => M.bind (app r y) fun _ => loopC turn r n wk'
        | none => loopC turn r n wk') h

mutual
def evE (ev : Ev) : CE → Env → M D
  | .slot i, env => M.opt (match env[i]? with | some (some d) => some d | _ => none)
  | .con d, _ => M.pure d
  | .bin o a b, env => M.bind (evE ev a env) fun x => M.bind (evE ev b env) fun y => binD o x y
  | .neg a, env => M.bind (evE ev a env) fun x => match x with | .int i => M.pure (.int (-i)) | _ => M.bad
  | .notE a, env => M.bind (evE ev a env) fun x => M.bind (tru x) fun k => M.pure (.bl (!k))
  | .andE a b, env => M.bind (evE ev a env) fun x => M.bind (tru x) fun k => match k with | true => evE ev b env | false => M.pure x
  | .orE a b, env => M.bind (evE ev a env) fun x => M.bind (tru x) fun k => match k with | true => M.pure x | false => evE ev b env
  | .cmp o a b, env => M.bind (evE ev a env) fun x => M.bind (evE ev b env) fun y => cmpD o x y
  | .isN a, env => M.bind (evE ev a env) fun x => M.pure (.bl (match x with | .non => true | _ => false))
  | .notN a, env => M.bind (evE ev a env) fun x => M.pure (.bl (match x with | .non => false | _ => true))
  | .chain o1 o2 a b c, env => M.bind (evE ev a env) fun x => M.bind (evE ev b env) fun y => M.bind (cmpD o1 x y) fun r => match r with
    | .bl true => M.bind (evE ev c env) fun z => cmpD o2 y z
    | .bl false => M.pure (.bl false)
    | _ => M.bad
  | .ife t a b, env => M.bind (evE ev t env) fun x => M.bind (tru x) fun k => match k with | true => evE ev a env | false => evE ev b env
  | .tup es, env => M.bind (evEs ev es env) fun xs => if xs.length ≤ sizeLine then M.pure (.tup xs) else M.bad
  | .lst es, env => M.bind (evEs ev es env) fun xs => if xs.length ≤ sizeLine then alloc (.lst xs) else M.bad
  | .edct, _ => alloc (.dct [])
  | .idx a i, env => M.bind (evE ev a env) fun x => M.bind (evE ev i env) fun y => idxD x y
  | .rev a, env => M.bind (evE ev a env) fun x => match x with | .tup xs => M.pure (.tup xs.reverse) | _ => M.bad
  | .call f es, env => M.bind (evEs ev es env) fun xs => match ev.l with | c :: _ => c.call f xs | [] => M.bad
  | .bt b es, env => M.bind (evEs ev es env) fun xs => btD b xs
  | .bm m o es, env => M.bind (evE ev o env) fun x => M.bind (bmK m x) fun _ => M.bind (evEs ev es env) fun xs => bmD m x xs
  | .isi a t, env => M.bind (evE ev a env) fun x => fun h => match isTy h t x with | some k => .ok (.bl k) h | none => .bad
  | .comp elt own tg it cond, env => M.bind (evI ev it env) fun wk => M.bind (alloc (.lst [])) fun d => match d with
    | .ref r => M.bind (loopC (fun v => noX (match asgT tg v (wipeE env own) with
        | some env' => M.bind (match cond with
            | .nil => M.pure true
            | .cons c _ => M.bind (evE ev c env') tru) fun k => match k with
          | true => M.bind (evE ev elt env') fun y => M.pure (some y)
          | false => M.pure none
        | none => M.bad)) r wk.len wk) fun _ => M.pure (.ref r)
    | _ => M.bad
  | .lam g body, env => match ev.l with
    | c :: _ :: l => c.callL g (evE { ev with l := l } body env)
    | _ => M.bad
  | .act, _ => match ev.thk with | some m => m | none => M.bad
  | .xat f, _ => match ev.xc with | some x => M.opt (x.fs.lookup f) | none => M.bad
def evEs (ev : Ev) : CEs → Env → M (List D)
  | .nil, _ => M.pure []
  | .cons e es, env => M.bind (evE ev e env) fun x => M.bind (evEs ev es env) fun xs => M.pure (x :: xs)
def evI (ev : Ev) : It → Env → M Wk
  | .seq e, env => M.bind (evE ev e env) wkOf
  | .rng e, env => M.bind (evE ev e env) wkRng
end

inductive SR where
  | nxt (env : Env) (h : Hh) | brk (env : Env) (h : Hh) | cnt (env : Env) (h : Hh) | ret (d : D) (h : Hh) | exc (x : XV) (env : Env) (h : Hh) | bad
def liftE {α : Type} (m : M α) (env : Env) (k : α → Hh → SR) : Hh → SR := fun h => match m h with
  | .ok a h' => k a h'
  | .exc x h' => .exc x env h'
  | .bad => .bad
def loopF (turn : D → Env → Hh → SR) : Nat → Wk → Env → Hh → SR
  | n, wk, env, h => match wk.next h with
    | none => .bad
    | some none => .nxt env h
    | some (some (d, wk')) => match n with
      | 0 => .bad
      | n + 1 => match turn d env h with
        | .nxt env' h' => loopF turn n wk' env' h'
        | .cnt env' h' => loopF turn n wk' env' h'
        | .brk env' h' => .nxt env' h'
        | r => r
def loopW (c : Env → M Bool) (turn : Env → Hh → SR) : Nat → Env → Hh → SR
  | 0, _, _ => .bad
  | n + 1, env, h => liftE (c env) env (fun k h1 => match k with
      | false => .nxt env h1
      | true => match turn env h1 with
        | .nxt env' h' => loopW c turn n env' h'
        | .cnt env' h' => loopW c turn n env' h'
        | .brk env' h' => .nxt env' h'
        | r => r) h
def setAll : List Nat → List D → Env → Option Env
  | [], [], env => some env
  | i :: is, d :: ds, env => setAll is ds (env.set i (some d))
  | _, _, _ => none
mutual
def exS (ev : Ev) : CS → Env → Hh → SR
  | .ret e, env => liftE (evE ev e env) env fun d h => .ret d h
  | .retN, _ => fun h => .ret .non h
  | .expr e, env => liftE (evE ev e env) env fun _ h => .nxt env h
  | .asg t e, env => liftE (evE ev e env) env fun d h => match asgT t d env with | some env' => .nxt env' h | none => .bad
  | .par is es, env => liftE (evEs ev es env) env fun ds h => match setAll is ds env with | some env' => .nxt env' h | none => .bad
  | .sets o i e, env => liftE (M.bind (evE ev e env) fun v => M.bind (evE ev o env) fun x => M.bind (evE ev i env) fun y => setD x y v) env fun _ h => .nxt env h
  | .ifS c a b, env => liftE (M.bind (evE ev c env) tru) env fun k h => match k with | true => exSs ev a env h | false => exSs ev b env h
  | .forS t it body, env => liftE (evI ev it env) env fun wk h => loopF (fun d env h => match asgT t d env with | some env' => exSs ev body env' h | none => .bad) wk.len wk env h
  | .whileS c body, env => loopW (fun env => M.bind (evE ev c env) tru) (fun env h => exSs ev body env h) ev.pg.W env
  | .raiseM c, env => fun h => .exc ⟨c, []⟩ env h
  | .raiseI c f e, env => match ev.l with
    | _ :: _ :: _ => liftE (evE ev e env) env fun d h => .exc ⟨c, [(f, d)]⟩ env h
    | _ => fun _ => .bad
  | .tryS body hs, env => fun h => match exSs ev body env h with
    | .exc x env' h' => exH ev hs x env' h'
    | r => r
  | .pass, env => fun h => .nxt env h
  | .brk, env => fun h => .brk env h
  | .cnt, env => fun h => .cnt env h
def exSs (ev : Ev) : CSs → Env → Hh → SR
  | .nil, env => fun h => .nxt env h
  | .cons s ss, env => fun h => match exS ev s env h with
    | .nxt env' h' => exSs ev ss env' h'
    | r => r
def exH (ev : Ev) : Hds → XV → Env → Hh → SR
  | .nil, x, env => fun h => .exc x env h
  | .cons c as suite hs, x, env => fun h => match ev.pg.sub x.cls c with
    | true => match as with
      | none => match exSs { ev with xc := some x } suite env h with
        | .exc _ _ _ => .bad
        | r => r
      | some i => match exSs { ev with xc := some x } suite (env.set i none) h with
        | .nxt env' h' => .nxt (env'.set i none) h'
        | .brk env' h' => .brk (env'.set i none) h'
        | .cnt env' h' => .cnt (env'.set i none) h'
        | .ret d h' => .ret d h'
        | .exc _ _ _ => .bad
        | .bad => .bad
    | false => exH ev hs x env h
end
def retR : SR → R D
  | .nxt _ h => .ok .non h
  | .ret d h => .ok d h
  | .exc x _ h => .exc x h
  | _ => .bad
/-- the functions at a level, over those below -/
def mkCl (pg : Pg) (l : List Cl) : Cl where
  call := fun f ds h => match pg.fns[f]? with
    | some fd => if fd.thk = false ∧ ds.length = fd.np then retR (exSs ⟨pg, l, none, none⟩ fd.body (ds.map some ++ List.replicate (fd.ns - ds.length) none) h) else .bad
    | none => .bad
  callL := fun f m h => match pg.fns[f]? with
    | some fd => if fd.thk = true then retR (exSs ⟨pg, l, some m, none⟩ fd.body (List.replicate fd.ns none) h) else .bad
    | none => .bad
def tabs (pg : Pg) : Nat → List Cl
  | 0 => []
  | n + 1 => mkCl pg (tabs pg n) :: tabs pg n
end MX
namespace MX
open PySem PySem.Spec PyProof.Rows L2

/-- the tuple that stands at a: tracked, or of the module's own -/
def TupAt (K : PySem.W.Frag) (H : Hp) (a : Addr) (xs : List V) : Prop :=
  H a = some (.tup xs) ∨ ∃ (o : Obj) (its : Array Value) (n : Nat), K.lookup a = some o ∧ o.cls = .type "tuple" ∧ o.data = .seq its n ∧ its.size ≤ sizeLine ∧ Vals xs its.toList
/-- the script: known to the object, or the module's own -/
def ScrAt (K : PySem.W.Frag) (H : Hp) (a : Addr) (ns : List Int) : Prop :=
  (∃ o, H a = some (.frz o (.lst (ns.map V.int)))) ∨
    ∃ (o : Obj) (its : Array Value) (n : Nat), K.lookup a = some o ∧ o.cls = .type "list" ∧ o.dict = none ∧ o.data = .seq its n ∧ its.size ≤ sizeLine ∧ Vals (ns.map V.int) its.toList
theorem TupAt.sq {K : PySem.W.Frag} {H : Hp} {a : Addr} {xs : List V} (h : TupAt K H a xs) : SqT K H a xs := by
  rcases h with h | h
  · exact .inl (.inl h)
  · exact .inr h
theorem ScrAt.sq {K : PySem.W.Frag} {H : Hp} {a : Addr} {ns : List Int} (h : ScrAt K H a ns) : SqL K H a (ns.map V.int) := by
  rcases h with ⟨o, h⟩ | h
  · exact .inl (.inr ⟨o, h⟩)
  · exact .inr h

mutual
inductive VRel (K : PySem.W.Frag) (ρ : List Addr) (H : Hp) : D → V → Prop
  | non : VRel K ρ H .non .non
  | bl (b : Bool) : VRel K ρ H (.bl b) (.bl b)
  | int (i : Int) : VRel K ρ H (.int i) (.int i)
  | str (x : Str) : VRel K ρ H (.str x) (.str x)
  | ref {r : Nat} {a : Addr} : ρ[r]? = some a → VRel K ρ H (.ref r) (.ref a)
  | tup {a : Addr} {xs : List D} {vs : List V} : TupAt K H a vs → VRels K ρ H xs vs → VRel K ρ H (.tup xs) (.ref a)
  | scr {a : Addr} {ns : List Int} : ScrAt K H a ns → VRel K ρ H (.scr ns) (.ref a)
inductive VRels (K : PySem.W.Frag) (ρ : List Addr) (H : Hp) : List D → List V → Prop
  | nil : VRels K ρ H [] []
  | cons {d : D} {v : V} {ds : List D} {vs : List V} : VRel K ρ H d v → VRels K ρ H ds vs → VRels K ρ H (d :: ds) (v :: vs)
end

/-- what no operation of ours changes -/
def Sta : HO → Prop
  | .tup _ => True
  | .frz _ _ => True
  | .xd _ => True
  | .own _ => True
  | .ext _ => True
  | _ => False
structure Ext (ρ : List Addr) (H : Hp) (ρ' : List Addr) (H' : Hp) : Prop where
  app : ∃ m, ρ' = ρ ++ m
  sta : ∀ a o, Sta o → H a = some o → H' a = some o
theorem Ext.refl (ρ : List Addr) (H : Hp) : Ext ρ H ρ H := ⟨⟨[], by simp⟩, fun _ _ _ h => h⟩
theorem Ext.trans {ρ ρ1 ρ2 : List Addr} {H H1 H2 : Hp} (a : Ext ρ H ρ1 H1) (b : Ext ρ1 H1 ρ2 H2) : Ext ρ H ρ2 H2 := by
  obtain ⟨⟨m, e⟩, s⟩ := a
  obtain ⟨⟨m', e'⟩, s'⟩ := b
  exact ⟨⟨m ++ m', by rw [e', e, List.append_assoc]⟩, fun x o t h => s' x o t (s x o t h)⟩
theorem Ext.get {ρ ρ' : List Addr} {H H' : Hp} (e : Ext ρ H ρ' H') {r : Nat} {a : Addr} (h : ρ[r]? = some a) : ρ'[r]? = some a := by
  obtain ⟨⟨m, e⟩, _⟩ := e
  rw [e, List.getElem?_append_left (List.getElem?_eq_some_iff.mp h).1]
  exact h
section
variable {K : PySem.W.Frag} {ρ ρ' : List Addr} {H H' : Hp}
theorem TupAt.mono {a : Addr} {xs : List V} (e : Ext ρ H ρ' H') (h : TupAt K H a xs) : TupAt K H' a xs := by
  rcases h with h | h
  · exact .inl (e.sta _ _ trivial h)
  · exact .inr h
theorem ScrAt.mono {a : Addr} {ns : List Int} (e : Ext ρ H ρ' H') (h : ScrAt K H a ns) : ScrAt K H' a ns := by
  rcases h with ⟨o, h⟩ | h
  · exact .inl ⟨o, e.sta _ _ trivial h⟩
  · exact .inr h
mutual
theorem VRel.mono (e : Ext ρ H ρ' H') : ∀ {d : D} {v : V}, VRel K ρ H d v → VRel K ρ' H' d v
  | _, _, .non => .non
  | _, _, .bl b => .bl b
  | _, _, .int i => .int i
  | _, _, .str x => .str x
  | _, _, .ref h => .ref (e.get h)
  | _, _, .tup h r => .tup (h.mono e) (VRels.mono e r)
  | _, _, .scr h => .scr (h.mono e)
theorem VRels.mono (e : Ext ρ H ρ' H') : ∀ {ds : List D} {vs : List V}, VRels K ρ H ds vs → VRels K ρ' H' ds vs
  | _, _, .nil => .nil
  | _, _, .cons a b => .cons (VRel.mono e a) (VRels.mono e b)
end
theorem VRels.length : ∀ {ds : List D} {vs : List V}, VRels K ρ H ds vs → ds.length = vs.length
  | _, _, .nil => rfl
  | _, _, .cons _ b => by rw [List.length_cons, List.length_cons, VRels.length b]
theorem VRels.append : ∀ {ds es : List D} {vs us : List V}, VRels K ρ H ds vs → VRels K ρ H es us → VRels K ρ H (ds ++ es) (vs ++ us)
  | _, _, _, _, .nil, b => b
  | _, _, _, _, .cons a r, b => .cons a (VRels.append r b)
theorem VRels.get : ∀ {ds : List D} {vs : List V} {i : Nat} {d : D}, VRels K ρ H ds vs → ds[i]? = some d → ∃ v, vs[i]? = some v ∧ VRel K ρ H d v
  | _, _, _, _, .nil, h => by simp at h
  | _, _, 0, _, .cons a _, h => by
    simp at h
    subst h
    exact ⟨_, rfl, a⟩
  | _, _, i + 1, _, .cons _ r, h => by
    obtain ⟨v, h1, h2⟩ := VRels.get (i := i) r (by simpa using h)
    exact ⟨v, by simpa using h1, h2⟩
theorem VRels.set {d : D} {v : V} (x : VRel K ρ H d v) : ∀ {ds : List D} {vs : List V} (i : Nat), VRels K ρ H ds vs → VRels K ρ H (ds.set i d) (vs.set i v)
  | _, _, _, .nil => .nil
  | _, _, 0, .cons _ r => .cons x r
  | _, _, i + 1, .cons a r => .cons a (VRels.set x i r)
theorem VRels.take : ∀ {ds : List D} {vs : List V} (n : Nat), VRels K ρ H ds vs → VRels K ρ H (ds.take n) (vs.take n)
  | _, _, 0, _ => .nil
  | _, _, _ + 1, .nil => .nil
  | _, _, n + 1, .cons a r => .cons a (VRels.take n r)
theorem VRels.drop : ∀ {ds : List D} {vs : List V} (n : Nat), VRels K ρ H ds vs → VRels K ρ H (ds.drop n) (vs.drop n)
  | _, _, 0, r => r
  | _, _, _ + 1, .nil => .nil
  | _, _, n + 1, .cons _ r => VRels.drop n r
theorem VRels.rev : ∀ {ds : List D} {vs : List V}, VRels K ρ H ds vs → VRels K ρ H ds.reverse vs.reverse
  | _, _, .nil => .nil
  | _, _, .cons a r => by
    rw [List.reverse_cons, List.reverse_cons]
    exact (VRels.rev r).append (.cons a .nil)
theorem VRels.rep {ds : List D} {vs : List V} (r : VRels K ρ H ds vs) : ∀ n, VRels K ρ H (List.replicate n ds).flatten (List.replicate n vs).flatten
  | 0 => .nil
  | n + 1 => by
    rw [List.replicate_succ, List.replicate_succ, List.flatten_cons, List.flatten_cons]
    exact r.append (VRels.rep r n)
theorem VRels.ints : ∀ {ns : List Int}, VRels K ρ H (ns.map D.int) (ns.map V.int)
  | [] => .nil
  | _ :: _ => .cons (.int _) VRels.ints
end

/-! ### objects, heaps -/
structure Lk where
  K : PySem.W.Frag
  mg : Str → Option Value
  pg : Pg
  fld : Nat → Str
  clA : Nat → Addr
  T : List (Addr × Str)
  nc : Nat
/-- keys of dicts: ints and texts -/
def keyD : Key → D
  | .inl i => .int i
  | .inr x => .str x
inductive KRels (K : PySem.W.Frag) (ρ : List Addr) (H : Hp) : List (D × D) → List (Key × V) → Prop
  | nil : KRels K ρ H [] []
  | cons {k : Key} {d : D} {v : V} {r : List (D × D)} {s : List (Key × V)} : VRel K ρ H d v → KRels K ρ H r s → KRels K ρ H ((keyD k, d) :: r) ((k, v) :: s)
theorem KRels.mono {K : PySem.W.Frag} {ρ ρ' : List Addr} {H H' : Hp} (e : Ext ρ H ρ' H') : ∀ {r : List (D × D)} {s : List (Key × V)}, KRels K ρ H r s → KRels K ρ' H' r s
  | _, _, .nil => .nil
  | _, _, .cons a b => .cons (a.mono e) (KRels.mono e b)
theorem KRels.length {K : PySem.W.Frag} {ρ : List Addr} {H : Hp} : ∀ {r : List (D × D)} {s : List (Key × V)}, KRels K ρ H r s → r.length = s.length
  | _, _, .nil => rfl
  | _, _, .cons _ b => by rw [List.length_cons, List.length_cons, KRels.length b]
inductive FRels (L : Lk) (ρ : List Addr) (H : Hp) : List (Nat × D) → List (Str × V) → Prop
  | nil : FRels L ρ H [] []
  | cons {f : Nat} {d : D} {v : V} {r : List (Nat × D)} {s : List (Str × V)} : VRel L.K ρ H d v → FRels L ρ H r s → FRels L ρ H ((f, d) :: r) ((L.fld f, v) :: s)
theorem FRels.mono {L : Lk} {ρ ρ' : List Addr} {H H' : Hp} (e : Ext ρ H ρ' H') : ∀ {r : List (Nat × D)} {s : List (Str × V)}, FRels L ρ H r s → FRels L ρ' H' r s
  | _, _, .nil => .nil
  | _, _, .cons a b => .cons (a.mono e) (FRels.mono e b)
inductive ORel (L : Lk) (ρ : List Addr) (H : Hp) : MO → HO → Prop
  | lst {xs : List D} {vs : List V} : VRels L.K ρ H xs vs → ORel L ρ H (.lst xs) (.lst vs)
  | dct {kvs : List (D × D)} {s : List (Key × V)} : KRels L.K ρ H kvs s → ORel L ρ H (.dct kvs) (.dK s)
  | ins {c : Nat} {fs : List (Nat × D)} {gs : List (Str × V)} {dx : Addr} : FRels L ρ H fs gs → ORel L ρ H (.ins c fs) (.ins (L.clA c) dx gs)
theorem ORel.mono {L : Lk} {ρ ρ' : List Addr} {H H' : Hp} (e : Ext ρ H ρ' H') {o : MO} {u : HO} (h : ORel L ρ H o u) : ORel L ρ' H' o u := by
  cases h with
  | lst h => exact .lst (h.mono e)
  | dct h => exact .dct (h.mono e)
  | ins h => exact .ins (h.mono e)
theorem ORel.notSta {L : Lk} {ρ : List Addr} {H : Hp} {o : MO} {u : HO} (h : ORel L ρ H o u) : ¬ Sta u := by
  cases h <;> exact id
structure Rep (L : Lk) (ρ : List Addr) (h : Hh) (H : Hp) : Prop where
  len : ρ.length = h.length
  nd : ρ.Nodup
  obj : ∀ (r : Nat) (a : Addr) (o : MO), ρ[r]? = some a → h[r]? = some o → ∃ u, H a = some u ∧ ORel L ρ H o u
  tabs : LamX.Tabs L.T H
section
variable {L : Lk} {ρ ρ' : List Addr} {h h' : Hh} {H H' : Hp}
theorem Rep.at (R : Rep L ρ h H) {r : Nat} {o : MO} (e : h[r]? = some o) : ∃ a u, ρ[r]? = some a ∧ H a = some u ∧ ORel L ρ H o u := by
  have hl : r < ρ.length := by
    rw [R.len]
    exact (List.getElem?_eq_some_iff.mp e).1
  obtain ⟨u, h1, h2⟩ := R.obj r ρ[r] o (List.getElem?_eq_getElem hl) e
  exact ⟨_, u, List.getElem?_eq_getElem hl, h1, h2⟩
theorem Rep.there (R : Rep L ρ h H) {a : Addr} (e : a ∈ ρ) : ∃ u, H a = some u ∧ ¬ Sta u := by
  obtain ⟨r, hr, e⟩ := List.mem_iff_getElem.mp e
  have hl : r < h.length := by
    rw [← R.len]
    exact hr
  obtain ⟨u, h1, h2⟩ := R.obj r a h[r] (by rw [List.getElem?_eq_getElem hr, e]) (List.getElem?_eq_getElem hl)
  exact ⟨u, h1, h2.notSta⟩
theorem Rep.new (R : Rep L ρ h H) {p : Addr} (n : H p = none) : p ∉ ρ := fun m => by
  obtain ⟨u, e, _⟩ := R.there m
  rw [n] at e
  cases e
/-- a new object that the mirror does not see (a tuple) -/
theorem ext_new {p : Addr} {u : HO} (n : H p = none) : Ext ρ H ρ (upd H p u) := ⟨⟨[], by simp⟩, fun a o _ e => by
  rw [upd_ne (ne_of_none e n)]
  exact e⟩
theorem tabs_new {T : List (Addr × Str)} (t : LamX.Tabs T H) {p : Addr} {u : HO} (n : H p = none) : LamX.Tabs T (upd H p u) := t.ext fun b o e => by
  rw [upd_ne (ne_of_none e n)]
  exact e
theorem Rep.side (R : Rep L ρ h H) {p : Addr} {u : HO} (n : H p = none) : Rep L ρ h (upd H p u) := by
  refine ⟨R.len, R.nd, fun r a o h1 h2 => ?_, tabs_new R.tabs n⟩
  obtain ⟨v, e1, e2⟩ := R.obj r a o h1 h2
  exact ⟨v, by rw [upd_ne (ne_of_none e1 n)]; exact e1, e2.mono (ext_new n)⟩
theorem ext_alloc {p : Addr} {u : HO} (n : H p = none) : Ext ρ H (ρ ++ [p]) (upd H p u) := ⟨⟨[p], rfl⟩, (ext_new (ρ := ρ) n).sta⟩
/-- a new object -/
theorem Rep.alloc (R : Rep L ρ h H) {p : Addr} {o : MO} {u : HO} (n : H p = none) (x : ORel L ρ H o u) : Rep L (ρ ++ [p]) (h ++ [o]) (upd H p u) := by
  have E : Ext ρ H (ρ ++ [p]) (upd H p u) := ext_alloc n
  refine ⟨by simp [R.len], ?_, fun r a o' h1 h2 => ?_, tabs_new R.tabs n⟩
  · rw [List.nodup_append]
    refine ⟨R.nd, by simp, fun a ha b hb => ?_⟩
    simp only [List.mem_singleton] at hb
    rintro rfl
    rw [hb] at ha
    exact R.new n ha
  · by_cases hr : r < ρ.length
    · rw [List.getElem?_append_left hr] at h1
      rw [List.getElem?_append_left (by rw [← R.len]; exact hr)] at h2
      obtain ⟨v, e1, e2⟩ := R.obj r a o' h1 h2
      exact ⟨v, by rw [upd_ne (ne_of_none e1 n)]; exact e1, e2.mono E⟩
    · rw [List.getElem?_append_right (by omega)] at h1
      rw [List.getElem?_append_right (by rw [← R.len]; omega)] at h2
      have z : r - ρ.length = 0 := by
        have := (List.getElem?_eq_some_iff.mp h1).1
        simp at this
        omega
      rw [← R.len, z] at h2
      rw [z] at h1
      simp at h1 h2
      subst h1
      subst h2
      exact ⟨u, upd_same, x.mono E⟩
/-- a change of an object -/
theorem ext_upd (R : Rep L ρ h H) {r : Nat} {a : Addr} {u : HO} (e : ρ[r]? = some a) : Ext ρ H ρ (upd H a u) := ⟨⟨[], by simp⟩, fun b o s hb => by
  have : b ≠ a := by
    rintro rfl
    obtain ⟨v, e1, e2⟩ := R.there (List.mem_of_getElem? e)
    rw [hb] at e1
    cases e1
    exact e2 s
  rw [upd_ne this]
  exact hb⟩
theorem tab_ne {T : List (Addr × Str)} (t : LamX.Tabs T H) {a : Addr} {u w : HO} (e : H a = some w) (hw : ∀ ps, w ≠ .tbl ps) (hx : ¬ Sta w) : LamX.Tabs T (upd H a u) := fun p hp => by
  obtain ⟨ps, h1, h2, h3⟩ := t p hp
  refine ⟨ps, ?_, h2, fun pos cv hc => ?_⟩
  · rw [upd_ne (ne_of h1 e fun z => hw ps z.symm)]
    exact h1
  · obtain ⟨c, e1, e2⟩ := h3 pos cv hc
    refine ⟨c, e1, ?_⟩
    have : c ≠ a := by
      rintro rfl
      rw [e] at e2
      cases e2
      exact hx trivial
    rw [upd_ne this]
    exact e2
theorem ORel.noTbl {o : MO} {u : HO} (x : ORel L ρ H o u) : ∀ ps, u ≠ .tbl ps := by
  cases x <;> exact fun ps z => HO.noConfusion z
theorem Rep.set (R : Rep L ρ h H) {r : Nat} {a : Addr} {o o' : MO} {u : HO} (e : ρ[r]? = some a) (eo : h[r]? = some o) (x : ORel L ρ H o' u) : Rep L ρ (h.set r o') (upd H a u) := by
  have E : Ext ρ H ρ (upd H a u) := ext_upd R e
  refine ⟨by rw [List.length_set]; exact R.len, R.nd, fun s b p h1 h2 => ?_, ?_⟩
  · by_cases hs : s = r
    · subst hs
      rw [e] at h1
      cases h1
      rw [List.getElem?_set_self (List.getElem?_eq_some_iff.mp eo).1] at h2
      cases h2
      exact ⟨u, upd_same, x.mono E⟩
    · rw [List.getElem?_set_ne (Ne.symm hs)] at h2
      obtain ⟨v, e1, e2⟩ := R.obj s b p h1 h2
      have : b ≠ a := by
        rintro rfl
        obtain ⟨p1, q1⟩ := List.getElem?_eq_some_iff.mp e
        obtain ⟨p2, q2⟩ := List.getElem?_eq_some_iff.mp h1
        exact hs ((List.getElem_inj R.nd).mp (q2.trans q1.symm))
      exact ⟨v, by rw [upd_ne this]; exact e1, e2.mono E⟩
  · obtain ⟨w, e1, e2⟩ := R.obj r a o e eo
    exact tab_ne R.tabs e1 e2.noTbl e2.notSta
end

/-! ### slots -/
def ERel (K : PySem.W.Frag) (ρ : List Addr) (H : Hp) (env : Env) (σ : L2.St) : Prop :=
  env.length = σ.length ∧ ∀ (i : Nat) (d : D), env[i]? = some (some d) → ∃ v, σ[i]? = some (some v) ∧ VRel K ρ H d v
section
variable {K : PySem.W.Frag} {ρ ρ' : List Addr} {H H' : Hp} {env : Env} {σ : L2.St}
theorem ERel.mono (e : Ext ρ H ρ' H') (x : ERel K ρ H env σ) : ERel K ρ' H' env σ := ⟨x.1, fun i d h => by
  obtain ⟨v, h1, h2⟩ := x.2 i d h
  exact ⟨v, h1, h2.mono e⟩⟩
theorem ERel.set (x : ERel K ρ H env σ) {d : D} {v : V} (r : VRel K ρ H d v) (i : Nat) : ERel K ρ H (env.set i (some d)) (σ.set i (some v)) := by
  refine ⟨by simp [x.1], fun j e h => ?_⟩
  by_cases hj : i = j
  · subst hj
    by_cases hi : i < env.length
    · rw [List.getElem?_set_self hi] at h
      cases h
      exact ⟨v, by rw [List.getElem?_set_self (by rw [← x.1]; exact hi)], r⟩
    · rw [List.getElem?_eq_none (by simpa using hi)] at h
      cases h
  · rw [List.getElem?_set_ne hj] at h ⊢
    exact x.2 j e h
theorem ERel.forget (x : ERel K ρ H env σ) (i : Nat) : ERel K ρ H (env.set i none) (σ.set i none) := by
  refine ⟨by simp [x.1], fun j e h => ?_⟩
  by_cases hj : i = j
  · subst hj
    by_cases hi : i < env.length
    · rw [List.getElem?_set_self hi] at h
      cases h
    · rw [List.getElem?_eq_none (by simpa using hi)] at h
      cases h
  · rw [List.getElem?_set_ne hj] at h ⊢
    exact x.2 j e h
theorem ERel.wipe (x : ERel K ρ H env σ) : ∀ vs : List Nat, ERel K ρ H (wipeE env vs) (L2.wipe σ vs)
  | [] => x
  | v :: vs => (ERel.wipe x vs).forget v
/-- a slot's value that the mirror does not know -/
theorem ERel.unk (x : ERel K ρ H env σ) (i : Nat) (o : Option V) : ERel K ρ H (env.set i none) (σ.set i o) := by
  refine ⟨by simp [x.1], fun j e h => ?_⟩
  by_cases hj : i = j
  · subst hj
    by_cases hi : i < env.length
    · rw [List.getElem?_set_self hi] at h
      cases h
    · rw [List.getElem?_eq_none (by simpa using hi)] at h
      cases h
  · rw [List.getElem?_set_ne hj] at h ⊢
    exact x.2 j e h
end

/-! ### what a mirror's answer says -/
def XRel (L : Lk) (ρ : List Addr) (H : Hp) (x : XV) (cls : Value) (dd : Option Addr) : Prop :=
  x.cls < L.nc ∧ cls = .ref (L.clA x.cls) ∧ ∀ f d, x.fs.lookup f = some d → XfC L.K (L.clA x.cls) ∧ PySem.W.findIn L.K (.ref (L.clA x.cls)) (L.fld f) = some none ∧
    ∃ (a : Addr) (gs : List (Str × V)) (v : V), dd = some a ∧ H a = some (.xd gs) ∧ gs.lookup (L.fld f) = some v ∧ VRel L.K ρ H d v
theorem XRel.mono {L : Lk} {ρ ρ' : List Addr} {H H' : Hp} (e : Ext ρ H ρ' H') {x : XV} {cls : Value} {dd : Option Addr} (h : XRel L ρ H x cls dd) : XRel L ρ' H' x cls dd :=
  ⟨h.1, h.2.1, fun f d n => by
    obtain ⟨e1, e2, a, gs, v, e3, e4, e5, e6⟩ := h.2.2 f d n
    exact ⟨e1, e2, a, gs, v, e3, e.sta _ _ trivial e4, e5, e6.mono e⟩⟩
section
variable (L : Lk) {α β γ δ : Type}
def res (P : List Addr → Hp → α → β → Prop) (ρ : List Addr) (H : Hp) (r : R α) (Q : β → Hp → Prop) (W : Value → Option Addr → Hp → Prop) : Prop := match r with
  | .ok a h' => ∀ ρ' H' b, Ext ρ H ρ' H' → Rep L ρ' h' H' → P ρ' H' a b → Q b H'
  | .exc x h' => ∀ ρ' H' cls dd, Ext ρ H ρ' H' → Rep L ρ' h' H' → XRel L ρ' H' x cls dd → W cls dd H'
  | .bad => False
variable {L} {P : List Addr → Hp → α → β → Prop} {P' : List Addr → Hp → γ → δ → Prop} {ρ ρ' : List Addr} {H H' : Hp} {Q : β → Hp → Prop} {Q' : δ → Hp → Prop} {W : Value → Option Addr → Hp → Prop}
theorem res.mono {r : R α} {Q2 : β → Hp → Prop} (h : res L P ρ H r Q W) (k : ∀ b H, Q b H → Q2 b H) : res L P ρ H r Q2 W := by
  cases r with
  | ok a h' => exact fun ρ' H' b e R p => k _ _ (h ρ' H' b e R p)
  | exc x h' => exact h
  | bad => exact h
theorem res.later {r : R α} (e : Ext ρ H ρ' H') (h : res L P ρ H r Q W) : res L P ρ' H' r Q W := by
  cases r with
  | ok a h' => exact fun ρ' H' b e' R p => h ρ' H' b (e.trans e') R p
  | exc x h' => exact fun ρ' H' c d e' R p => h ρ' H' c d (e.trans e') R p
  | bad => exact h
theorem res.bind {m : M α} {f : α → M γ} {h : Hh} (x : res L P' ρ H (M.bind m f h) Q' W) :
    res L P ρ H (m h) (fun b H1 => ∃ ρ1 h1 a, Ext ρ H ρ1 H1 ∧ Rep L ρ1 h1 H1 ∧ P ρ1 H1 a b ∧ res L P' ρ1 H1 (f a h1) Q' W) W := by
  unfold M.bind at x
  cases e : m h with
  | ok a h' =>
    rw [e] at x
    exact fun ρ' H' b e' R p => ⟨ρ', h', a, e', R, p, x.later e'⟩
  | exc y h' =>
    rw [e] at x
    exact x
  | bad =>
    rw [e] at x
    exact x
theorem res.ret {a : α} {h : Hh} {b : β} (R : Rep L ρ h H) (p : P ρ H a b) (x : res L P ρ H (.ok a h) Q W) : Q b H := x ρ H b (Ext.refl _ _) R p
end
/-- a point: what some slots hold, a state that is past -/
structure Pn where
  pv : List (Nat × V)
  ρ0 : List Addr
  H0 : Hp
def Pn.free : Pn := ⟨[], [], fun _ => none⟩
def Pins (p : Pn) (σ : L2.St) : Prop := ∀ q ∈ p.pv, σ[q.1]? = some (some q.2)
def Past (p : Pn) (ρ : List Addr) (H : Hp) : Prop := Ext p.ρ0 p.H0 ρ H
theorem Past.free (ρ : List Addr) (H : Hp) : Past Pn.free ρ H := ⟨⟨ρ, rfl⟩, fun _ _ _ e => by cases e⟩
theorem Pins.free (σ : L2.St) : Pins Pn.free σ := fun _ h => by cases h
theorem Pins.set {p : Pn} {σ : L2.St} (h : Pins p σ) {i : Nat} {o : Option V} (n : i ∉ p.pv.map (·.1)) : Pins p (σ.set i o) := fun q hq => by
  have : i ≠ q.1 := fun e => n (List.mem_map.mpr ⟨q, hq, e.symm⟩)
  rw [List.getElem?_set_ne this]
  exact h q hq
/-- the reading of a mirror's expression -/
def tM (L : Lk) (p : Pn) {α β : Type} (P : List Addr → Hp → α → β → Prop) (m : Env → M α) (W : WX) : L2.St → Hp → (β → Hp → Prop) → Prop := fun σ H Q =>
  Pins p σ ∧ ∃ ρ env h, Rep L ρ h H ∧ ERel L.K ρ H env σ ∧ Past p ρ H ∧ res L P ρ H (m env h) Q (fun c d H' => W c d σ H')
abbrev VR (L : Lk) : List Addr → Hp → D → V → Prop := VRel L.K
abbrev VRs (L : Lk) : List Addr → Hp → List D → List V → Prop := VRels L.K
abbrev BR : List Addr → Hp → Bool → Bool → Prop := fun _ _ a b => a = b
abbrev UR : List Addr → Hp → Unit → Unit → Prop := fun _ _ _ _ => True

/-! ### statements -/
def resS (L : Lk) (p : Pn) (ρ : List Addr) (H : Hp) (r : SR) (E : Ends) (W : WX) : Prop := match r with
  | .nxt env h => ∀ ρ' H' σ', Ext ρ H ρ' H' → Rep L ρ' h H' → ERel L.K ρ' H' env σ' → Pins p σ' → E.nx σ' H'
  | .brk env h => ∀ ρ' H' σ', Ext ρ H ρ' H' → Rep L ρ' h H' → ERel L.K ρ' H' env σ' → Pins p σ' → E.bk σ' H'
  | .cnt env h => ∀ ρ' H' σ', Ext ρ H ρ' H' → Rep L ρ' h H' → ERel L.K ρ' H' env σ' → Pins p σ' → E.ct σ' H'
  | .ret d h => ∀ ρ' H' v, Ext ρ H ρ' H' → Rep L ρ' h H' → VRel L.K ρ' H' d v → E.rt v H'
  | .exc x env h => ∀ ρ' H' σ' cls dd, Ext ρ H ρ' H' → Rep L ρ' h H' → ERel L.K ρ' H' env σ' → Pins p σ' → XRel L ρ' H' x cls dd → W cls dd σ' H'
  | .bad => False
theorem resS.later {L : Lk} {p : Pn} {ρ ρ1 : List Addr} {H H1 : Hp} {r : SR} {E : Ends} {W : WX} (e : Ext ρ H ρ1 H1) (h : resS L p ρ H r E W) : resS L p ρ1 H1 r E W := by
  cases r with
  | nxt env h' => exact fun ρ' H' σ' e' => h ρ' H' σ' (e.trans e')
  | brk env h' => exact fun ρ' H' σ' e' => h ρ' H' σ' (e.trans e')
  | cnt env h' => exact fun ρ' H' σ' e' => h ρ' H' σ' (e.trans e')
  | ret d h' => exact fun ρ' H' v e' => h ρ' H' v (e.trans e')
  | exc x env h' => exact fun ρ' H' σ' c d e' => h ρ' H' σ' c d (e.trans e')
  | bad => exact h
/-- the reading of a mirror's statement -/
def tS (L : Lk) (p : Pn) (m : Env → Hh → SR) (W : WX) : TS := fun E σ H =>
  Pins p σ ∧ ∃ ρ env h, Rep L ρ h H ∧ ERel L.K ρ H env σ ∧ Past p ρ H ∧ resS L p ρ H (m env h) E W
theorem PE.imp {X : Cx} {e : Expr} {t t' : TE} (h : PE X e t) (k : ∀ σ H Q, t' σ H Q → t σ H Q) : PE X e t' := ⟨fun pins s σ H Q I q => h.run pins s σ H Q I (k σ H Q q)⟩
theorem PT.imp {X : Cx} {e : Expr} {t t' : TT} (h : PT X e t) (k : ∀ σ H Q, t' σ H Q → t σ H Q) : PT X e t' := ⟨fun pins s σ H Q I q => h.run pins s σ H Q I (k σ H Q q)⟩
theorem PA.imp {X : Cx} {e : List Expr} {t t' : TA} (h : PA X e t) (k : ∀ σ H Q, t' σ H Q → t σ H Q) : PA X e t' := ⟨fun pos pins s σ H Q I q => h.run pos pins s σ H Q I (k σ H Q q)⟩
theorem PS.imp {X : Cx} {e : Stmt} {t t' : TS} (h : PS X e t) (k : ∀ E σ H, t' E σ H → t E σ H) : PS X e t' := ⟨fun pins s σ H E I q => h.run pins s σ H E I (k E σ H q)⟩
theorem PSs.imp {X : Cx} {e : List Stmt} {t t' : TS} (h : PSs X e t) (k : ∀ E σ H, t' E σ H → t E σ H) : PSs X e t' := ⟨fun pins s σ H E I q => h.run pins s σ H E I (k E σ H q)⟩
end MX
set_option maxHeartbeats 1000000
namespace MX
open PySem PySem.Spec PyProof.Rows L2

/-- what of a context the values' rules ask -/
structure X0 (L : Lk) (X : Cx) : Prop where
  K : X.K = L.K
  mg : X.mg = L.mg
  un : X.A.units + 200 < cLine
  gd : X.A.guards = some []

def OpOk (L : Lk) (f : Value → Value → Sem Value) (g : D → D → M D) : Prop :=
  ∀ (X : Cx) (pins : List (Addr × Obj)) (s : Shared) (σ : L2.St) (H : Hp) (x y : V) (v u : Value) (Q : VK) (W : Value → Option Addr → Hp → Prop) (ρ : List Addr) (h : Hh) (a b : D), X0 L X → Inv X pins σ H s →
    L2.RelV x v → L2.RelV y u → Rep L ρ h H → VRel L.K ρ H a x → VRel L.K ρ H b y → res L (VR L) ρ H (g a b h) Q W → wpAny (model X.prog X.w) X.A (f v u) (EP X pins σ Q) X.xe s

section
variable {L : Lk} {ρ : List Addr} {h : Hh} {H : Hp} {Q : VK} {W : Value → Option Addr → Hp → Prop}
theorem lst_at (R : Rep L ρ h H) {r : Nat} {a : Addr} {xs : List D} (e : ρ[r]? = some a) (o : h[r]? = some (.lst xs)) : ∃ vs, H a = some (.lst vs) ∧ VRels L.K ρ H xs vs := by
  obtain ⟨u, e1, e2⟩ := R.obj r a _ e o
  cases e2 with
  | lst r => exact ⟨_, e1, r⟩
theorem dct_at (R : Rep L ρ h H) {r : Nat} {a : Addr} {xs : List (D × D)} (e : ρ[r]? = some a) (o : h[r]? = some (.dct xs)) : ∃ vs, H a = some (.dK vs) ∧ KRels L.K ρ H xs vs := by
  obtain ⟨u, e1, e2⟩ := R.obj r a _ e o
  cases e2 with
  | dct r => exact ⟨_, e1, r⟩
/-- what seqOf sees -/
theorem seq_at {K : PySem.W.Frag} (hK : K = L.K) (R : Rep L ρ h H) {d : D} {v : V} {xs : List D} (x : VRel L.K ρ H d v) (e : seqOf h d = some xs) :
    ∃ a vs, v = .ref a ∧ VRels L.K ρ H xs vs ∧ (SqL K H a vs ∨ (SqT K H a vs ∧ d = .tup xs)) := by
  subst hK
  cases x with
  | non => cases e
  | bl => cases e
  | int => cases e
  | str => cases e
  | @ref r a hr =>
    simp only [seqOf] at e
    split at e
    · next ys h1 =>
      cases e
      obtain ⟨vs, e1, e2⟩ := lst_at R hr h1
      exact ⟨a, vs, rfl, e2, .inl (.of e1)⟩
    · cases e
  | tup ht hv =>
    cases e
    exact ⟨_, _, rfl, hv, .inr ⟨ht.sq, rfl⟩⟩
  | scr hs =>
    cases e
    exact ⟨_, _, rfl, VRels.ints, .inl hs.sq⟩
/-- a new list -/
theorem res_alloc {xs : List D} {vs : List V} (R : Rep L ρ h H) (r : VRels L.K ρ H xs vs) (x : res L (VR L) ρ H (alloc (.lst xs) h) Q W) {p : Addr} (n : H p = none) : Q (.ref p) (upd H p (.lst vs)) := by
  refine x (ρ ++ [p]) _ _ (ext_alloc n) (R.alloc n (.lst r)) (.ref ?_)
  rw [← R.len, List.getElem?_append_right (Nat.le_refl _)]
  simp
/-- a new tuple -/
theorem res_tup {xs : List D} {vs : List V} (R : Rep L ρ h H) (r : VRels L.K ρ H xs vs) (x : res L (VR L) ρ H (.ok (.tup xs) h) Q W) {p : Addr} (n : H p = none) : Q (.ref p) (upd H p (.tup vs)) :=
  x ρ _ _ (ext_new n) (R.side n) (.tup (.inl upd_same) (r.mono (ext_new n)))
end

theorem add_ok (L : Lk) : OpOk L (binaryOp .Add) addD := by
  intro X pins s σ H x y v u Q W ρ h a b hX I rx ry R ra rb q
  cases ra with
  | int i =>
    cases rb with
    | int j => exact op_add pins s σ H _ _ v u Q I rx ry ⟨i, j, rfl, rfl, q.ret R (.int _)⟩
    | _ => exact q.elim
  | str i =>
    cases rb with
    | str j =>
      simp only [addD] at q
      split at q
      · next hz => exact op_add_str pins s σ H _ _ v u Q I rx ry ⟨i, j, rfl, rfl, hz, q.ret R (.str _)⟩
      · exact q.elim
    | _ => exact q.elim
  | @tup p xs vs hx r1 =>
    cases rb with
    | @tup p' ys us hy r2 =>
      simp only [addD] at q
      split at q
      · next hz =>
        refine op_catA pins s σ H _ _ v u Q I rx ry ⟨p, p', vs, us, rfl, rfl, by rw [hX.K]; exact hx.sq, by rw [hX.K]; exact hy.sq, by rw [← r1.length, ← r2.length]; exact hz, fun e => ?_, fun _ e => ?_, fun _ _ t n => ?_⟩
        · subst e
          cases r1
          exact q.ret R (.tup hy r2)
        · subst e
          cases r2
          rw [List.append_nil] at q
          exact q.ret R (.tup hx r1)
        · exact res_tup R (r1.append r2) q n
      · exact q.elim
    | _ => exact q.elim
  | @ref r p hp =>
    cases rb with
    | @ref r' p' hp' =>
      simp only [addD] at q
      split at q
      · next xs ys e1 e2 =>
        obtain ⟨vs, h1, r1⟩ := lst_at R hp e1
        obtain ⟨us, h2, r2⟩ := lst_at R hp' e2
        split at q
        · next hz => exact op_cat pins s σ H _ _ v u Q I rx ry ⟨p, p', vs, us, rfl, rfl, h1, h2, by rw [← r1.length, ← r2.length]; exact hz, fun l n => res_alloc R (r1.append r2) q n⟩
        · exact q.elim
      · exact q.elim
    | _ => exact q.elim
  | _ => cases rb <;> exact q.elim

theorem sub_ok (L : Lk) : OpOk L (binaryOp .Sub) (binD .sub) := by
  intro X pins s σ H x y v u Q W ρ h a b hX I rx ry R ra rb q
  cases ra with
  | int i =>
    cases rb with
    | int j => exact op_sub pins s σ H _ _ v u Q I rx ry ⟨i, j, rfl, rfl, q.ret R (.int _)⟩
    | _ => exact q.elim
  | _ => cases rb <;> exact q.elim
theorem mul_ok (L : Lk) : OpOk L (binaryOp .Mult) mulD := by
  intro X pins s σ H x y v u Q W ρ h a b hX I rx ry R ra rb q
  cases ra with
  | int i =>
    cases rb with
    | int j =>
      simp only [mulD] at q
      split at q
      · next hz => exact op_mulW pins s σ H _ _ v u Q I rx ry ⟨i, j, rfl, rfl, hz, q.ret R (.int _)⟩
      · exact q.elim
    | _ => exact q.elim
  | @ref r p hp =>
    cases rb with
    | int k =>
      simp only [mulD] at q
      split at q
      · next xs e1 =>
        obtain ⟨vs, h1, r1⟩ := lst_at R hp e1
        split at q
        · next hz =>
          exact op_rep pins s σ H _ _ v u Q I rx ry ⟨p, k, vs, rfl, rfl, h1, by omega, by omega, by rw [← r1.length]; exact hz.2.2, fun l n => res_alloc R (r1.rep _) q n⟩
        · exact q.elim
      · exact q.elim
    | _ => exact q.elim
  | _ => cases rb <;> exact q.elim
theorem fdiv_ok (L : Lk) : OpOk L (binaryOp .FloorDiv) fdivD := by
  intro X pins s σ H x y v u Q W ρ h a b hX I rx ry R ra rb q
  cases ra with
  | int i =>
    cases rb with
    | int j =>
      simp only [fdivD] at q
      split at q
      · next hz => exact op_fdivW pins s σ H _ _ v u Q I rx ry ⟨i, j, rfl, rfl, hz, q.ret R (.int _)⟩
      · exact q.elim
    | _ => exact q.elim
  | _ => cases rb <;> exact q.elim
theorem mod_ok (L : Lk) : OpOk L (binaryOp .Mod) modD := by
  intro X pins s σ H x y v u Q W ρ h a b hX I rx ry R ra rb q
  cases ra with
  | int i =>
    cases rb with
    | int j =>
      simp only [modD] at q
      split at q
      · next hz => exact op_mod pins s σ H _ _ v u Q I rx ry ⟨i, j, rfl, rfl, hz, q.ret R (.int _)⟩
      · exact q.elim
    | _ => exact q.elim
  | _ => cases rb <;> exact q.elim
theorem bits_log (i : Int) : Builtin.Int.intBits i ≤ i.natAbs.log2 + 1 := by
  unfold Builtin.Int.intBits
  split <;> omega
theorem pow_ok (L : Lk) : OpOk L (binaryOp .Pow) powD := by
  intro X pins s σ H x y v u Q W ρ h a b hX I rx ry R ra rb q
  cases ra with
  | int i =>
    cases rb with
    | int j =>
      simp only [powD] at q
      split at q
      · next hz =>
        obtain ⟨t, rfl⟩ := rx
        obtain ⟨t', rfl⟩ := ry
        obtain ⟨h0, h1⟩ := hz
        refine pow_int h0 ?_ ⟨.int _, H, I.tok _, ⟨_, rfl⟩, q.ret R (.int _)⟩
        have hb := bits_log i
        have : (Builtin.Int.intBits i : Int) * j ≤ ((i.natAbs.log2 + 1 : Nat) : Int) * j := Int.mul_le_mul_of_nonneg_right (by omega) h0
        omega
      · exact q.elim
    | _ => exact q.elim
  | _ => cases rb <;> exact q.elim

/-! ### data as the library's -/
theorem optMap_len {α β : Type} {f : α → Option β} : ∀ {xs : List α} {ys : List β}, optMap f xs = some ys → ys.length = xs.length
  | [], ys, h => by
    cases h
    rfl
  | x :: xs, ys, h => by
    simp only [optMap] at h
    split at h
    · cases h
    · split at h
      · cases h
      · next y hy zs hz =>
        cases h
        rw [List.length_cons, List.length_cons, optMap_len hz]
section
variable {L : Lk} {X : Cx} {pins : List (Addr × Obj)} {σ : L2.St} {H : Hp} {s : Shared} {ρ : List Addr} {h : Hh}
theorem reads_all {k : Nat} (ih : ∀ (d : D) (x : V) (u : Value) (p : PyData), VRel L.K ρ H d x → L2.RelV x u → toP h k d = some p → ∃ as, Reads s.heap u p as) :
    ∀ (ds : List D) (xs : List V) (us : List Value) (ps : List PyData), VRels L.K ρ H ds xs → Vals xs us → optMap (toP h k) ds = some ps → ∃ as, ReadsAll s.heap us ps as
  | [], _, _, ps, .nil, .nil, e => by
    cases e
    exact ⟨_, .nil⟩
  | d :: ds, _, _, ps, .cons r rs, .cons v vs, e => by
    simp only [optMap] at e
    split at e
    · cases e
    · next y hy =>
      split at e
      · cases e
      · next zs hz =>
        cases e
        obtain ⟨as, h1⟩ := ih d _ _ y r v hy
        obtain ⟨bs, h2⟩ := reads_all ih ds _ _ zs rs vs hz
        exact ⟨_, .cons h1 h2⟩
theorem key_val {k : Key} {u : Value} (e : keyIs k u = true) : L2.RelV (kV k) u := by
  rcases keyIs_shape e with ⟨i, t, rfl, rfl⟩ | ⟨x, t, rfl, rfl⟩
  · exact ⟨t, rfl⟩
  · exact ⟨t, rfl⟩
theorem key_rel {K : PySem.W.Frag} (k : Key) : VRel K ρ H (keyD k) (kV k) := by
  cases k with
  | inl i => exact .int i
  | inr x => exact .str x
theorem reads_kv {k : Nat} (ih : ∀ (d : D) (x : V) (u : Value) (p : PyData), VRel L.K ρ H d x → L2.RelV x u → toP h k d = some p → ∃ as, Reads s.heap u p as) {P : Program} {w : World} :
    ∀ (ds : List (D × D)) (xs : List (Key × V)) (ys : List (Key × Value)) (es : List DictEntry) (ps : List (PyData × PyData)), KRels L.K ρ H ds xs → KV xs ys → Pairs (mixKind P w) es ys →
      optMap (fun p => match toP h k p.1, toP h k p.2 with | some a, some b => some (a, b) | _, _ => none) ds = some ps → ∃ as bs, ReadsAll s.heap (es.map (·.key)) (ps.map (·.1)) as ∧ ReadsAll s.heap (es.map (·.val)) (ps.map (·.2)) bs
  | [], _, _, _, ps, .nil, .nil, .nil, e => by
    cases e
    exact ⟨_, _, .nil, .nil⟩
  | _ :: ds, _, _, _, ps, .cons r rs, .cons c cs, .cons i v pr, e => by
    simp only [optMap] at e
    split at e
    · cases e
    · next y hy =>
      split at e
      · cases e
      · next zs hz =>
        cases e
        split at hy
        · next a b ha hb =>
          cases hy
          obtain ⟨as, bs, g1, g2⟩ := reads_kv ih ds _ _ _ zs rs cs pr hz
          obtain ⟨c1, c2⟩ := c
          simp only at c1 c2
          subst c1
          rw [← v] at c2
          obtain ⟨as1, f1⟩ := ih _ _ _ a (key_rel _) (key_val i) ha
          obtain ⟨bs1, f2⟩ := ih _ _ _ b r c2 hb
          exact ⟨_, _, .cons f1 g1, .cons f2 g2⟩
        · cases hy
theorem reads_of (hK : X.K = L.K) (I : Inv X pins σ H s) (R : Rep L ρ h H) : ∀ (k : Nat) (d : D) (x : V) (u : Value) (p : PyData), VRel L.K ρ H d x → L2.RelV x u → toP h k d = some p → ∃ as, Reads s.heap u p as
  | 0, _, _, _, _, _, _, e => by cases e
  | k + 1, _, _, u, p, .non, rv, e => by
    cases e
    cases rv
    exact ⟨_, .none⟩
  | k + 1, _, _, u, p, .bl b, rv, e => by
    cases e
    cases rv
    exact ⟨_, .bool b⟩
  | k + 1, _, _, u, p, .int i, rv, e => by
    cases e
    obtain ⟨t, rfl⟩ := rv
    exact ⟨_, .int i t⟩
  | k + 1, _, _, u, p, .str x, rv, e => by
    cases e
    obtain ⟨t, rfl⟩ := rv
    exact ⟨_, .str x t⟩
  | k + 1, _, _, u, p, .tup ht hv, rv, e => by
    simp only [toP] at e
    split at e
    · next ys hy =>
      cases e
      cases rv
      obtain ⟨its, r1, ⟨o, ho, hc, n, hd⟩, _⟩ := I.tuple (by rw [hK]; exact ht.sq)
      obtain ⟨as, g⟩ := reads_all (reads_of hK I R k) _ _ _ _ hv r1 hy
      exact ⟨_, .tuple ho hc hd (by simpa using g)⟩
    · cases e
  | k + 1, _, _, u, p, .ref (r := r) (a := a) hr, rv, e => by
    simp only [toP] at e
    split at e
    · next xs hx =>
      split at e
      · next ys hy =>
        cases e
        cases rv
        obtain ⟨vs, e1, r1⟩ := lst_at R hr hx
        obtain ⟨its, r2, ⟨o, n, ho, hc, _, hd⟩, _⟩ := I.list (by rw [hK]; exact SqL.of e1)
        obtain ⟨as, g⟩ := reads_all (reads_of hK I R k) _ _ _ _ r1 r2 hy
        exact ⟨_, .list ho hc hd (by simpa using g)⟩
      · cases e
    · next kvs hx =>
      split at e
      · next ys hy =>
        cases e
        cases rv
        obtain ⟨vs, e1, r1⟩ := dct_at R hr hx
        obtain ⟨_, _, us, r2, o, es, ep, ho, hc, hd, _, pr, _⟩ := (show ObjOk X.prog X.w H s.heap a (.dK vs) from I.hok a _ e1)
        obtain ⟨as, bs, g1, g2⟩ := reads_kv (reads_of hK I R k) _ _ _ _ _ r1 r2 pr hy
        exact ⟨_, .dict ho hc.1 hd g1 g2⟩
      · cases e
    · cases e
  | k + 1, _, _, u, p, .scr _, _, e => by cases e
end
theorem depth_all {k : Nat} {h : Hh} (ih : ∀ (d : D) (p : PyData), toP h k d = some p → p.depth ≤ k) : ∀ (ds : List D) (ps : List PyData), optMap (toP h k) ds = some ps → PyData.depthAll ps ≤ k
  | [], ps, e => by
    cases e
    exact Nat.zero_le _
  | d :: ds, ps, e => by
    simp only [optMap] at e
    split at e
    · cases e
    · next y hy =>
      split at e
      · cases e
      · next zs hz =>
        cases e
        simp only [PyData.depthAll]
        exact Nat.max_le.mpr ⟨ih d y hy, depth_all ih ds zs hz⟩
theorem depth_kv {k : Nat} {h : Hh} (ih : ∀ (d : D) (p : PyData), toP h k d = some p → p.depth ≤ k) : ∀ (ds : List (D × D)) (ps : List (PyData × PyData)), optMap (fun p => match toP h k p.1, toP h k p.2 with | some a, some b => some (a, b) | _, _ => none) ds = some ps → PyData.depthKv ps ≤ k
  | [], ps, e => by
    cases e
    exact Nat.zero_le _
  | d :: ds, ps, e => by
    simp only [optMap] at e
    split at e
    · cases e
    · next y hy =>
      split at e
      · cases e
      · next zs hz =>
        cases e
        split at hy
        · next a b ha hb =>
          cases hy
          simp only [PyData.depthKv]
          exact Nat.max_le.mpr ⟨Nat.max_le.mpr ⟨ih _ _ ha, ih _ _ hb⟩, depth_kv ih ds zs hz⟩
        · cases hy
theorem toP_depth (h : Hh) : ∀ (k : Nat) (d : D) (p : PyData), toP h k d = some p → p.depth ≤ k
  | 0, _, _, e => by cases e
  | k + 1, .non, p, e => by
    cases e
    exact Nat.zero_le _
  | k + 1, .bl b, p, e => by
    cases e
    exact Nat.zero_le _
  | k + 1, .int b, p, e => by
    cases e
    exact Nat.zero_le _
  | k + 1, .str b, p, e => by
    cases e
    exact Nat.zero_le _
  | k + 1, .tup xs, p, e => by
    simp only [toP] at e
    split at e
    · next ys hy =>
      cases e
      simp only [PyData.depth]
      exact Nat.succ_le_succ (depth_all (toP_depth h k) _ _ hy)
    · cases e
  | k + 1, .ref r, p, e => by
    simp only [toP] at e
    split at e
    · split at e
      · next ys hy =>
        cases e
        simp only [PyData.depth]
        exact Nat.succ_le_succ (depth_all (toP_depth h k) _ _ hy)
      · cases e
    · split at e
      · next ys hy =>
        cases e
        simp only [PyData.depth]
        exact Nat.succ_le_succ (depth_kv (toP_depth h k) _ _ hy)
      · cases e
    · cases e
  | k + 1, .scr _, p, e => by cases e
end MX
set_option maxHeartbeats 1000000
namespace MX
open PySem PySem.Spec PyProof.Rows L2

def copOp : COp → CmpOp
  | .eq => .Eq
  | .ne => .NotEq
  | .lt => .Lt
  | .le => .LtE
  | .gt => .Gt
  | .ge => .GtE
  | .isin => .In
  | .notin => .NotIn
section
variable {L : Lk} {X : Cx} {pins : List (Addr × Obj)} {σ : L2.St} {H : Hp} {s : Shared} {ρ : List Addr} {h : Hh} {Q : VK} {W : Value → Option Addr → Hp → Prop}
theorem eq_reads (hX : X0 L X) (I : Inv X pins σ H s) (R : Rep L ρ h H) {a b : D} {x y : V} {v u : Value} {k : Bool} (ra : VRel L.K ρ H a x) (rb : VRel L.K ρ H b y) (rx : L2.RelV x v) (ry : L2.RelV y u) (e : eqD h a b = some k) :
    ∃ p q as bs, Reads s.heap v p as ∧ Reads s.heap u q bs ∧ p.canLay0 = true ∧ q.canLay0 = true ∧ X.A.units + min p.depth q.depth < cLine ∧ k = PyData.eqv p q := by
  simp only [eqD] at e
  split at e
  · next p q hp hq =>
    split at e
    · next hc =>
      cases e
      obtain ⟨as, h1⟩ := reads_of hX.K I R _ _ _ _ _ ra rx hp
      obtain ⟨bs, h2⟩ := reads_of hX.K I R _ _ _ _ _ rb ry hq
      rw [Bool.and_eq_true] at hc
      have d1 := toP_depth h _ _ _ hp
      have d2 : min p.depth q.depth ≤ p.depth := Nat.min_le_left _ _
      have un := hX.un
      have : deep = 20 := rfl
      exact ⟨p, q, as, bs, h1, h2, hc.1, hc.2, by omega, rfl⟩
    · cases e
  · cases e
theorem any_all {k : Nat} : ∀ {ds : List D} {qs : List PyData}, optMap (toP h k) ds = some qs → PyData.depthAll qs ≤ k := fun {ds qs} e => depth_all (toP_depth h k) ds qs e
theorem in_ok (hX : X0 L X) (I : Inv X pins σ H s) (R : Rep L ρ h H) {a b : D} {x y : V} {v u : Value} {k : Bool} (ra : VRel L.K ρ H a x) (rb : VRel L.K ρ H b y) (rx : L2.RelV x v) (ry : L2.RelV y u) (e : inD h a b = some k)
    (q1 : Q (.bl k) H) : wpAny (model X.prog X.w) X.A (compareOp .In v u) (EP X pins σ Q) X.xe s := by
  have un := hX.un
  have dp : deep = 20 := rfl
  have go : ∀ ys, seqOf h b = some ys → ∀ p qs, toP h deep a = some p → optMap (toP h deep) ys = some qs → p.canLay0 = true → PyData.canLayAll0 qs = true → k = qs.any (fun q => PyData.eqv q p) → wpAny (model X.prog X.w) X.A (compareOp .In v u) (EP X pins σ Q) X.xe s := by
    intro ys hs p qs hp hq c1 c2 hk
    obtain ⟨as, r1⟩ := reads_of hX.K I R _ _ _ _ _ ra rx hp
    obtain ⟨t, vs, rfl, rv, sq⟩ := seq_at (K := X.K) hX.K R rb hs
    cases ry
    have d1 := toP_depth h _ _ _ hp
    have d2 : min (PyData.depthAll qs) p.depth ≤ p.depth := Nat.min_le_right _ _
    have fin : EP X pins σ Q (.bool (qs.any fun q => PyData.eqv q p)) s := ⟨.bl _, H, I, rfl, by rw [← hk]; exact q1⟩
    rcases sq with sq | ⟨sq, _⟩
    · obtain ⟨its, r2, ⟨o, n, ho, hc, _, hd⟩, _⟩ := I.list sq
      obtain ⟨bs, g⟩ := reads_all (reads_of hX.K I R deep) _ _ _ _ rv r2 hq
      exact SeqAt.in_list_reads (.list ho hc hd (by simpa using g)) r1 c2 c1 (by omega) fin
    · obtain ⟨its, r2, ⟨o, ho, hc, n, hd⟩, _⟩ := I.tuple sq
      obtain ⟨bs, g⟩ := reads_all (reads_of hX.K I R deep) _ _ _ _ rv r2 hq
      exact SeqAt.in_tuple_reads (.tuple ho hc hd (by simpa using g)) r1 c2 c1 (by omega) fin
  unfold inD at e
  split at e
  · next i j =>
    cases ra
    cases rb
    split at e
    · next c hc =>
      cases e
      have : i = ⟨#[c]⟩ := by
        obtain ⟨⟨l⟩⟩ := i
        simp only at hc
        subst hc
        rfl
      subst this
      exact op_in_sign pins s σ H _ _ v u Q I rx ry ⟨c, j, rfl, rfl, q1⟩
    · cases e
  · split at e
    · next ys hs =>
      split at e
      · next p qs hp hq =>
        split at e
        · next hc =>
          cases e
          rw [Bool.and_eq_true] at hc
          exact go ys hs p qs hp hq hc.1 hc.2 rfl
        · cases e
      · cases e
    · cases e
theorem notin_ok (hX : X0 L X) (I : Inv X pins σ H s) (R : Rep L ρ h H) {a b : D} {x y : V} {v u : Value} {k : Bool} (ra : VRel L.K ρ H a x) (rb : VRel L.K ρ H b y) (rx : L2.RelV x v) (ry : L2.RelV y u) (e : inD h a b = some k)
    (q1 : Q (.bl (!k)) H) : wpAny (model X.prog X.w) X.A (compareOp .NotIn v u) (EP X pins σ Q) X.xe s := by
  have un := hX.un
  have dp : deep = 20 := rfl
  have go : ∀ ys, seqOf h b = some ys → ∀ p qs, toP h deep a = some p → optMap (toP h deep) ys = some qs → p.canLay0 = true → PyData.canLayAll0 qs = true → k = qs.any (fun q => PyData.eqv q p) → wpAny (model X.prog X.w) X.A (compareOp .NotIn v u) (EP X pins σ Q) X.xe s := by
    intro ys hs p qs hp hq c1 c2 hk
    obtain ⟨as, r1⟩ := reads_of hX.K I R _ _ _ _ _ ra rx hp
    obtain ⟨t, vs, rfl, rv, sq⟩ := seq_at (K := X.K) hX.K R rb hs
    cases ry
    have d1 := toP_depth h _ _ _ hp
    have d2 : min (PyData.depthAll qs) p.depth ≤ p.depth := Nat.min_le_right _ _
    have fin : EP X pins σ Q (.bool (!qs.any fun q => PyData.eqv q p)) s := ⟨.bl _, H, I, rfl, by rw [← hk]; exact q1⟩
    rcases sq with sq | ⟨sq, _⟩
    · obtain ⟨its, r2, ⟨o, n, ho, hc, _, hd⟩, _⟩ := I.list sq
      obtain ⟨bs, g⟩ := reads_all (reads_of hX.K I R deep) _ _ _ _ rv r2 hq
      exact SeqAt.notIn_list_reads (.list ho hc hd (by simpa using g)) r1 c2 c1 (by omega) fin
    · obtain ⟨its, r2, ⟨o, ho, hc, n, hd⟩, _⟩ := I.tuple sq
      obtain ⟨bs, g⟩ := reads_all (reads_of hX.K I R deep) _ _ _ _ rv r2 hq
      exact SeqAt.notIn_tuple_reads (.tuple ho hc hd (by simpa using g)) r1 c2 c1 (by omega) fin
  unfold inD at e
  split at e
  · next i j =>
    cases ra
    cases rb
    split at e
    · next c hc =>
      cases e
      have : i = ⟨#[c]⟩ := by
        obtain ⟨⟨l⟩⟩ := i
        simp only at hc
        subst hc
        rfl
      subst this
      exact op_notIn_sign pins s σ H _ _ v u Q I rx ry ⟨c, j, rfl, rfl, q1⟩
    · cases e
  · split at e
    · next ys hs =>
      split at e
      · next p qs hp hq =>
        split at e
        · next hc =>
          cases e
          rw [Bool.and_eq_true] at hc
          exact go ys hs p qs hp hq hc.1 hc.2 rfl
        · cases e
      · cases e
    · cases e
end
theorem cmp_ok (L : Lk) (o : COp) : OpOk L (compareOp (copOp o)) (cmpD o) := by
  intro X pins s σ H x y v u Q W ρ h a b hX I rx ry R ra rb q
  cases o with
  | eq =>
    simp only [cmpD] at q
    split at q
    · next k e =>
      obtain ⟨p, p', as, bs, r1, r2, c1, c2, un, rfl⟩ := eq_reads hX I R ra rb rx ry e
      exact SeqAt.compareEq_reads r1 r2 c1 c2 un ⟨.bl _, H, I, rfl, q.ret R (.bl _)⟩
    · exact q.elim
  | ne =>
    simp only [cmpD] at q
    split at q
    · next k e =>
      obtain ⟨p, p', as, bs, r1, r2, c1, c2, un, rfl⟩ := eq_reads hX I R ra rb rx ry e
      exact SeqAt.compareNe_reads r1 r2 c1 c2 un ⟨.bl _, H, I, rfl, q.ret R (.bl _)⟩
    · exact q.elim
  | isin =>
    simp only [cmpD] at q
    split at q
    · next k e => exact in_ok hX I R ra rb rx ry e (q.ret R (.bl _))
    · exact q.elim
  | notin =>
    simp only [cmpD] at q
    split at q
    · next k e => exact notin_ok hX I R ra rb rx ry e (q.ret R (.bl _))
    · exact q.elim
  | lt =>
    simp only [cmpD] at q
    split at q
    · next i j =>
      cases ra
      cases rb
      exact op_lt pins s σ H _ _ v u Q I rx ry ⟨i, j, rfl, rfl, q.ret R (.bl _)⟩
    · exact q.elim
  | le =>
    simp only [cmpD] at q
    split at q
    · next i j =>
      cases ra
      cases rb
      exact op_le pins s σ H _ _ v u Q I rx ry ⟨i, j, rfl, rfl, q.ret R (.bl _)⟩
    · exact q.elim
  | gt =>
    simp only [cmpD] at q
    split at q
    · next i j =>
      cases ra
      cases rb
      exact op_gt pins s σ H _ _ v u Q I rx ry ⟨i, j, rfl, rfl, q.ret R (.bl _)⟩
    · exact q.elim
  | ge =>
    simp only [cmpD] at q
    split at q
    · next i j =>
      cases ra
      cases rb
      exact op_ge pins s σ H _ _ v u Q I rx ry ⟨i, j, rfl, rfl, q.ret R (.bl _)⟩
    · exact q.elim
/-- truth -/
theorem tru_at {L : Lk} {K : PySem.W.Frag} (hK : K = L.K) {ρ : List Addr} {h : Hh} {H : Hp} (R : Rep L ρ h H) {d : D} {x : V} {k : Bool} (r : VRel L.K ρ H d x) (e : truD h d = some k) : L2.TruV K x H k := by
  subst hK
  cases r with
  | non =>
    cases e
    rfl
  | bl b =>
    cases e
    rfl
  | int i =>
    cases e
    rfl
  | str y =>
    simp only [truD] at e
    split at e
    · next hz =>
      cases e
      refine ⟨hz, ?_⟩
      cases hn : y.length with
      | zero => rfl
      | succ n =>
        show true = _
        simp
        omega
    · cases e
  | tup ht hv =>
    cases e
    refine .inr (.inl ⟨_, ht.sq, ?_⟩)
    cases hv <;> rfl
  | ref hr =>
    simp only [truD] at e
    split at e
    · next xs hx =>
      cases e
      obtain ⟨vs, e1, r1⟩ := lst_at R hr hx
      refine .inl ⟨vs, .of e1, ?_⟩
      cases r1 <;> rfl
    · next kvs hx =>
      cases e
      obtain ⟨vs, e1, r1⟩ := dct_at R hr hx
      refine .inr (.inr ⟨vs, e1, ?_⟩)
      cases r1 <;> rfl
    · cases e
  | scr hs => cases e
end MX
set_option maxHeartbeats 1000000
namespace MX
open PySem PySem.Spec PyProof.Rows L2

def CallOk (L : Lk) (f : Value) (g : List D → M D) : Prop :=
  ∀ (X : Cx) (pins : List (Addr × Obj)) (s : Shared) (σ : L2.St) (H : Hp) (xs : List V) (us : List Value) (Q : VK) (W : Value → Option Addr → Hp → Prop) (ρ : List Addr) (h : Hh) (ds : List D), X0 L X → X.calm = true → Inv X pins σ H s →
    Vals xs us → Rep L ρ h H → VRels L.K ρ H ds xs → res L (VR L) ρ H (g ds h) Q W → wpAny (model X.prog X.w) X.A (call f us) (EP X pins σ Q) X.xe s
/-- the like in any context -/
def CallOkH (L : Lk) (f : Value) (g : List D → M D) : Prop :=
  ∀ (X : Cx) (pins : List (Addr × Obj)) (s : Shared) (σ : L2.St) (H : Hp) (xs : List V) (us : List Value) (Q : VK) (W : Value → Option Addr → Hp → Prop) (ρ : List Addr) (h : Hh) (ds : List D), X0 L X → Inv X pins σ H s →
    Vals xs us → Rep L ρ h H → VRels L.K ρ H ds xs → res L (VR L) ρ H (g ds h) Q W → wpAny (model X.prog X.w) X.A (call f us) (EP X pins σ Q) X.xe s
theorem CallOkH.calm {L : Lk} {f : Value} {g : List D → M D} (h : CallOkH L f g) : CallOk L f g := fun X pins s σ H xs us Q W ρ hh ds hX _ I r R rs q => h X pins s σ H xs us Q W ρ hh ds hX I r R rs q
def MethOk (L : Lk) (id : String) (g : D → List D → M D) : Prop :=
  ∀ (X : Cx) (pins : List (Addr × Obj)) (s : Shared) (σ : L2.St) (H : Hp) (x : V) (v : Value) (xs : List V) (us : List Value) (Q : VK) (W : Value → Option Addr → Hp → Prop) (ρ : List Addr) (h : Hh) (d : D) (ds : List D), X0 L X → X.calm = true → Inv X pins σ H s →
    L2.RelV x v → Vals xs us → Rep L ρ h H → VRel L.K ρ H d x → VRels L.K ρ H ds xs → res L (VR L) ρ H (g d ds h) Q W → wpAny (model X.prog X.w) X.A (call (.builtin id) (v :: us)) (EP X pins σ Q) X.xe s

section
variable {L : Lk}
theorem rels1 {K : PySem.W.Frag} {ρ : List Addr} {H : Hp} {d : D} {xs : List V} (r : VRels K ρ H [d] xs) : ∃ x, xs = [x] ∧ VRel K ρ H d x := by
  cases r with
  | cons a t =>
    cases t
    exact ⟨_, rfl, a⟩
theorem rels2 {K : PySem.W.Frag} {ρ : List Addr} {H : Hp} {d e : D} {xs : List V} (r : VRels K ρ H [d, e] xs) : ∃ x y, xs = [x, y] ∧ VRel K ρ H d x ∧ VRel K ρ H e y := by
  cases r with
  | cons a t =>
    obtain ⟨y, rfl, b⟩ := rels1 t
    exact ⟨_, _, rfl, a, b⟩
theorem len_ok : CallOk L (.builtin "len") (btD .len) := by
  intro X pins s σ H xs us Q W ρ h ds hX hc I r R rs q
  match ds, rs, q with
  | [], _, q => exact q.elim
  | _ :: _ :: _, _, q => exact q.elim
  | [d], rs, q =>
    obtain ⟨x, rfl, rd⟩ := rels1 rs
    simp only [btD, bt1] at q
    split at q
    · next n e =>
      have q1 := q.ret R (.int _)
      have go : LenV X.K x H n → wpAny (model X.prog X.w) X.A (call (.builtin "len") us) (EP X pins σ Q) X.xe s := fun z => call_len pins s σ H _ us Q I r ⟨x, n, rfl, z, q1⟩
      rw [hX.K] at go
      cases rd with
      | str y =>
        simp only [lenD] at e
        split at e
        · next hz =>
          cases e
          exact go ⟨hz, rfl⟩
        · cases e
      | tup ht hv =>
        cases e
        exact go (.inr ⟨_, ht.sq, hv.length⟩)
      | scr hs =>
        cases e
        exact go (.inl ⟨_, hs.sq, by simp⟩)
      | @ref r a hr =>
        simp only [lenD] at e
        split at e
        · next kvs hx =>
          cases e
          obtain ⟨vs, e1, r1⟩ := dct_at R hr hx
          exact call_lenD pins s σ H _ us Q I (by assumption) ⟨a, vs, rfl, e1, by rw [← r1.length]; exact q1⟩
        · next ys hx =>
          cases e
          obtain ⟨vs, e1, r1⟩ := lst_at R hr hx
          exact go (.inl ⟨_, .of e1, r1.length⟩)
        · cases e
      | _ => cases e
    · exact q.elim
theorem abs_ok : CallOk L (.builtin "abs") (btD .abs) := by
  intro X pins s σ H xs us Q W ρ h ds hX hc I r R rs q
  match ds, rs, q with
  | [], _, q => exact q.elim
  | _ :: _ :: _, _, q => exact q.elim
  | [d], rs, q =>
    obtain ⟨x, rfl, rd⟩ := rels1 rs
    cases rd with
    | int i => exact call_abs pins s σ H _ us Q I r ⟨i, rfl, q.ret R (.int _)⟩
    | _ => exact q.elim
theorem int_ok : CallOk L (.type "int") (btD .int) := by
  intro X pins s σ H xs us Q W ρ h ds hX hc I r R rs q
  match ds, rs, q with
  | [], _, q => exact q.elim
  | _ :: _ :: _, _, q => exact q.elim
  | [d], rs, q =>
    obtain ⟨x, rfl, rd⟩ := rels1 rs
    cases rd with
    | int i => exact call_int1 pins s σ H _ us Q I r (.inl ⟨i, rfl, q.ret R (.int _)⟩)
    | bl i => exact call_int1 pins s σ H _ us Q I r (.inr ⟨i, rfl, q.ret R (.int _)⟩)
    | _ => exact q.elim
theorem max_ok : CallOk L (.builtin "max") (btD .max) := by
  intro X pins s σ H xs us Q W ρ h ds hX hc I r R rs q
  match ds, rs, q with
  | [], _, q => exact q.elim
  | [_], _, q => exact q.elim
  | _ :: _ :: _ :: _, _, q => exact q.elim
  | [d, e], rs, q =>
    obtain ⟨x, y, rfl, rd, re⟩ := rels2 rs
    cases rd with
    | int i =>
      cases re with
      | int j => exact call_max2 hc pins s σ H _ us Q I r ⟨i, j, rfl, q.ret R (.int _)⟩
      | _ => exact q.elim
    | _ => cases re <;> exact q.elim
theorem min_ok : CallOk L (.builtin "min") (btD .min) := by
  intro X pins s σ H xs us Q W ρ h ds hX hc I r R rs q
  match ds, rs, q with
  | [], _, q => exact q.elim
  | [_], _, q => exact q.elim
  | _ :: _ :: _ :: _, _, q => exact q.elim
  | [d, e], rs, q =>
    obtain ⟨x, y, rfl, rd, re⟩ := rels2 rs
    cases rd with
    | int i =>
      cases re with
      | int j => exact call_min2 hc pins s σ H _ us Q I r ⟨i, j, rfl, q.ret R (.int _)⟩
      | _ => exact q.elim
    | _ => cases re <;> exact q.elim
theorem sign_vals {x : Str} {l : List Nat} (hx : x.cps.toList = l) : ∀ (acc : List Value) (k : Nat), (∀ j v, acc[j]? = some v → ∃ c u, l[k + j]? = some c ∧ v = .str ⟨#[c]⟩ u) → acc.length + k = l.length →
    Vals ((l.drop k).map fun c => V.str ⟨#[c]⟩) acc
  | [], k, _, hl => by
    rw [List.drop_eq_nil_of_le (by simp at hl; omega)]
    exact .nil
  | v :: acc, k, h, hl => by
    obtain ⟨c, u, h1, rfl⟩ := h 0 v rfl
    have hk : k < l.length := by simp at hl; omega
    rw [List.drop_eq_getElem_cons hk]
    rw [Nat.add_zero, List.getElem?_eq_getElem hk] at h1
    cases h1
    refine .cons ⟨u, rfl⟩ (sign_vals hx acc (k + 1) (fun j v hj => ?_) (by simp at hl; omega))
    have := h (j + 1) v (by simpa using hj)
    rw [show k + (j + 1) = k + 1 + j by omega] at this
    exact this
theorem VRels.signs {K : PySem.W.Frag} {ρ : List Addr} {H : Hp} : ∀ l : List Nat, VRels K ρ H (l.map sign1) (l.map fun c => V.str ⟨#[c]⟩)
  | [] => .nil
  | c :: r => .cons (.str _) (VRels.signs r)
theorem list_ok : CallOk L (.type "list") (btD .list) := by
  intro X pins s σ H xs us Q W ρ h ds hX hc I r R rs q
  match ds, rs, q with
  | [], _, q => exact q.elim
  | _ :: _ :: _, _, q => exact q.elim
  | [d], rs, q =>
    obtain ⟨x, rfl, rd⟩ := rels1 rs
    have go : ∀ ys, seqOf h d = some ys → res L (VR L) ρ H (alloc (.lst ys) h) Q W → wpAny (model X.prog X.w) X.A (call (.type "list") us) (EP X pins σ Q) X.xe s := fun ys e q => by
      obtain ⟨a, vs, rfl, rv, sq⟩ := seq_at (K := X.K) hX.K R rd e
      exact call_list_of pins s σ H _ us Q I r ⟨a, vs, rfl, sq.imp id (·.1), fun l n => res_alloc R rv q n⟩
    cases rd with
    | str y =>
      simp only [btD, bt1] at q
      split at q
      · next hz =>
        obtain ⟨u, rfl, t, rfl⟩ := vals1 r
        refine call_list_str (I.ok.hd hc) y t (fun h' tk acc' c' hk hS hacc => ?_) hz
        have rv : Vals (y.cps.toList.map fun c => V.str ⟨#[c]⟩) acc'.toList := by
          have := sign_vals (x := y) rfl acc'.toList 0 (fun j v hj => by
            obtain ⟨c, u, h1, h2⟩ := hacc.2 j v (by simpa using hj)
            exact ⟨c, u, by simpa using h1, h2⟩) (by simp [hacc.1])
          simpa using this
        refine ⟨.ref s.heap.objs.size, _, I.laid (t' := tk) hk (Nat.le_refl _) (show ObjOk X.prog X.w _ h' _ (.lst (y.cps.toList.map fun c => V.str ⟨#[c]⟩)) from ⟨by simpa using hz, acc'.toList, c', rv, by simpa using hS⟩), rfl, ?_⟩
        exact res_alloc R (VRels.signs _) q (I.hok.fresh (Nat.le_refl _))
      · exact q.elim
    | tup ht hv => exact go _ rfl q
    | scr hs => exact go _ rfl q
    | ref hr =>
      simp only [btD, bt1] at q
      split at q
      · next ys e => exact go ys e q
      · exact q.elim
    | _ => exact q.elim
theorem tuple_ok : CallOk L (.type "tuple") (btD .tuple) := by
  intro X pins s σ H xs us Q W ρ h ds hX hc I r R rs q
  match ds, rs, q with
  | [], _, q => exact q.elim
  | _ :: _ :: _, _, q => exact q.elim
  | [d], rs, q =>
    obtain ⟨x, rfl, rd⟩ := rels1 rs
    simp only [btD, bt1] at q
    split at q
    · next ys e =>
      obtain ⟨a, vs, rfl, rv, sq⟩ := seq_at (K := X.K) hX.K R rd e
      rcases sq with sq | ⟨sq, rfl⟩
      · exact call_tuple_of pins s σ H _ us Q I r ⟨a, vs, rfl, .inl ⟨sq, fun l n => res_tup R rv q n⟩⟩
      · exact call_tuple_of pins s σ H _ us Q I r ⟨a, vs, rfl, .inr ⟨sq, q.ret R rd⟩⟩
    · exact q.elim
theorem bools_at {K : PySem.W.Frag} {ρ : List Addr} {H : Hp} : ∀ {ds : List D} {vs : List V} {bs : List Bool}, VRels K ρ H ds vs → bools ds = some bs → vs = bs.map V.bl
  | _, _, bs, .nil, e => by
    cases e
    rfl
  | d :: ds, _, bs, .cons a r, e => by
    cases a with
    | bl b =>
      simp only [bools] at e
      cases e2 : bools ds with
      | none =>
        rw [e2] at e
        cases e
      | some cs =>
        rw [e2] at e
        cases e
        rw [bools_at r e2]
        rfl
    | _ => cases e
theorem all_ok : CallOk L (.builtin "all") (btD .all) := by
  intro X pins s σ H xs us Q W ρ h ds hX hc I r R rs q
  match ds, rs, q with
  | [], _, q => exact q.elim
  | _ :: _ :: _, _, q => exact q.elim
  | [d], rs, q =>
    obtain ⟨x, rfl, rd⟩ := rels1 rs
    cases rd with
    | @ref r a hr =>
      simp only [btD, bt1] at q
      split at q
      · next ys hx =>
        split at q
        · next bs hb =>
          obtain ⟨vs, e1, r1⟩ := lst_at R hr hx
          have := bools_at r1 hb
          subst this
          exact cr_all hc pins s σ H _ us Q I (by assumption) ⟨a, bs, rfl, .of e1, q.ret R (.bl _)⟩
        · exact q.elim
      · exact q.elim
    | _ => exact q.elim
theorem flat_reads {h : Heap} {u : Value} {p : PyData} {as : List Addr} (f : flatP p = true) (r : Reads h u p as) : as = [] := by
  cases r with
  | none => rfl
  | bool => rfl
  | int => rfl
  | str => rfl
  | list => cases f
  | tuple => cases f
  | dict => cases f
theorem flat_keys {h : Heap} : ∀ {us : List Value} {ps : List (PyData × PyData)} {as : List Addr}, (ps.all fun p => flatP p.1 && flatP p.2) = true → ReadsAll h us (ps.map (·.1)) as → as = []
  | _, [], _, _, r => by
    cases r
    rfl
  | _, p :: ps, _, f, r => by
    cases r with
    | cons a b =>
      rw [List.all_cons, Bool.and_eq_true, Bool.and_eq_true] at f
      rw [flat_reads f.1.1 a, flat_keys f.2 b]
      rfl
theorem flat_vals {h : Heap} : ∀ {us : List Value} {ps : List (PyData × PyData)} {as : List Addr}, (ps.all fun p => flatP p.1 && flatP p.2) = true → ReadsAll h us (ps.map (·.2)) as → as = []
  | _, [], _, _, r => by
    cases r
    rfl
  | _, p :: ps, _, f, r => by
    cases r with
    | cons a b =>
      rw [List.all_cons, Bool.and_eq_true, Bool.and_eq_true] at f
      rw [flat_reads f.1.2 a, flat_vals f.2 b]
      rfl
theorem dk_ne {X : Cx} {pins : List (Addr × Obj)} {σ : L2.St} {H : Hp} {s : Shared} {a : Addr} {kvs : List (Key × V)} (I : Inv X pins σ H s) (e : H a = some (.dK kvs)) : a ≠ sysModules := by
  have : (a == sysModules) = false := (show ObjOk X.prog X.w H s.heap a (.dK kvs) from I.hok a _ e).2.1
  simpa using this
theorem repr_ok : CallOkH L (.builtin "repr") (btD .repr) := by
  intro X pins s σ H xs us Q W ρ h ds hX I r R rs q
  match ds, rs, q with
  | [], _, q => exact q.elim
  | _ :: _ :: _, _, q => exact q.elim
  | [d], rs, q =>
    obtain ⟨x, rfl, rd⟩ := rels1 rs
    simp only [btD, bt1] at q
    split at q
    · next y e =>
      simp only [reprD] at e
      split at e
      · next p hp =>
        split at e
        · next hz =>
          cases e
          rw [Bool.and_eq_true, Bool.and_eq_true] at hz
          obtain ⟨⟨z1, z2⟩, z3⟩ := hz
          have z3 := of_decide_eq_true z3
          obtain ⟨u, rfl, rx⟩ := vals1 r
          obtain ⟨as, rr⟩ := reads_of hX.K I R _ _ _ _ _ rd rx hp
          have q1 := q.ret R (.str _)
          have un := hX.un
          have dp : deep = 20 := rfl
          have d1 := toP_depth h _ _ _ hp
          have big : ∀ a, u = .ref a → (p.hasDict = true → ¬ sysModules ∈ as) → wpAny (model X.prog X.w) X.A (call (.builtin "repr") [u]) (EP X pins σ Q) X.xe s := fun a ea hd => by
            subst ea
            exact repr_of_reads' rr z1 hd hX.gd (by omega) (fun _ _ e => e) (fun h' u' tk hk => ⟨.str _, H, I.kept (t' := tk) hk, ⟨_, rfl⟩, q1⟩) z3
          cases rd with
          | non =>
            cases rx
            cases hp
            exact PySem.P.repr_of_none ⟨.str _, H, I.tok _, ⟨_, rfl⟩, q1⟩
          | bl b =>
            cases rx
            cases hp
            exact PySem.P.repr_of_bool ⟨.str _, H, I.tok _, ⟨_, rfl⟩, by simpa only [PyData.shown] using q1⟩
          | int i =>
            obtain ⟨t, rfl⟩ := rx
            cases hp
            exact PySem.P.repr_of_int (by simpa only [PyData.showable, decide_eq_true_eq] using z1) ⟨.str _, H, I.tok _, ⟨_, rfl⟩, by simpa only [PyData.shown] using q1⟩
          | str z =>
            obtain ⟨t, rfl⟩ := rx
            cases hp
            exact PySem.P.repr_of_str ⟨.str _, H, I.tok _, ⟨_, rfl⟩, by simpa only [PyData.shown] using q1⟩ (by simpa only [PyData.shown] using z3)
          | scr hs => cases hp
          | tup ht hv =>
            cases rx
            simp only [deep, toP] at hp
            split at hp
            · cases hp
              refine big _ rfl fun hd => ?_
              have : (!PyData.hasDict (.tuple _)) = true := z2
              rw [hd] at this
              cases this
            · cases hp
          | @ref r a hr =>
            cases rx
            simp only [deep, toP] at hp
            split at hp
            · split at hp
              · cases hp
                refine big _ rfl fun hd => ?_
                have : (!PyData.hasDict (.list _)) = true := z2
                rw [hd] at this
                cases this
              · cases hp
            · next kvs hx =>
              split at hp
              · cases hp
                obtain ⟨vs, e1, r1⟩ := dct_at R hr hx
                have ne := dk_ne I e1
                refine big _ rfl fun hd => ?_
                cases rr with
                | dict g1 g2 g3 g4 g5 =>
                  rw [flat_keys z2 g4, flat_vals z2 g5]
                  simp
                  exact fun z => ne z.symm
              · cases hp
            · cases hp
        · cases e
      · cases e
    · exact q.elim

/-! ### methods -/
theorem append_ok : MethOk L "list.append" (bmD .append) := by
  intro X pins s σ H x v xs us Q W ρ h d ds hX hc I rx r R rd rs q
  match ds, rs, q with
  | [], _, q => cases rd <;> exact q.elim
  | _ :: _ :: _, _, q => cases rd <;> exact q.elim
  | [e], rs, q =>
    obtain ⟨y, rfl, re⟩ := rels1 rs
    cases rd with
    | @ref r a hr =>
      simp only [bmD, bt1, bt2, appendM, insertM, joinM] at q
      split at q
      · next ys hx =>
        split at q
        · next hz =>
          obtain ⟨vs, e1, r1⟩ := lst_at R hr hx
          refine mt_append pins s σ H _ _ v us Q I rx (by assumption) ⟨a, vs, y, rfl, rfl, e1, by rw [← r1.length]; exact hz, ?_⟩
          exact q ρ _ _ (ext_upd R hr) (R.set hr hx (.lst (r1.append (.cons re .nil)))) .non
        · exact q.elim
      · exact q.elim
    | _ => exact q.elim
theorem insert_ok : MethOk L "list.insert" (bmD .insert) := by
  intro X pins s σ H x v xs us Q W ρ h d ds hX hc I rx r R rd rs q
  match ds, rs, q with
  | [], _, q => cases rd <;> exact q.elim
  | [_], _, q => cases rd <;> exact q.elim
  | _ :: _ :: _ :: _, _, q => cases rd <;> exact q.elim
  | [i, e], rs, q =>
    obtain ⟨k, y, rfl, rk, re⟩ := rels2 rs
    cases rd with
    | @ref r a hr =>
      cases rk with
      | int i =>
        simp only [bmD, bt1, bt2, appendM, insertM, joinM] at q
        split at q
        · next ys hx =>
          split at q
          · next hz =>
            obtain ⟨vs, e1, r1⟩ := lst_at R hr hx
            refine mt_insert pins s σ H _ _ v us Q I rx (by assumption) ⟨a, vs, i, y, rfl, rfl, e1, by rw [← r1.length]; exact hz.1, hz.2.1, by omega, ?_⟩
            exact q ρ _ _ (ext_upd R hr) (R.set hr hx (.lst (((r1.take _).append (.cons re .nil)).append (r1.drop _)))) .non
          · exact q.elim
        · exact q.elim
      | _ => exact q.elim
    | _ => cases rk <;> exact q.elim
theorem strs_at {K : PySem.W.Frag} {ρ : List Addr} {H : Hp} : ∀ {ds : List D} {vs : List V} {bs : List Str}, VRels K ρ H ds vs → strsOf ds = some bs → vs = bs.map V.str
  | _, _, bs, .nil, e => by
    cases e
    rfl
  | d :: ds, _, bs, .cons a r, e => by
    cases a with
    | str b =>
      simp only [strsOf] at e
      cases e2 : strsOf ds with
      | none =>
        rw [e2] at e
        cases e
      | some cs =>
        rw [e2] at e
        cases e
        rw [strs_at r e2]
        rfl
    | _ => cases e
theorem join_ok : MethOk L "str.join" (bmD .join) := by
  intro X pins s σ H x v xs us Q W ρ h d ds hX hc I rx r R rd rs q
  match ds, rs, q with
  | [], _, q => cases rd <;> exact q.elim
  | _ :: _ :: _, _, q => cases rd <;> exact q.elim
  | [e], rs, q =>
    obtain ⟨y, rfl, re⟩ := rels1 rs
    cases rd with
    | str a =>
      simp only [bmD, bt1, bt2, appendM, insertM, joinM] at q
      split at q
      · next ys hs =>
        split at q
        · next zs hz =>
          split at q
          · next hn =>
            obtain ⟨p, vs, rfl, rv, sq⟩ := seq_at (K := X.K) hX.K R re hs
            have := strs_at rv hz
            subst this
            exact mt_join pins s σ H _ _ v us Q I rx r ⟨a, p, zs, rfl, rfl, sq.imp id (·.1), hn, q.ret R (.str _)⟩
          · exact q.elim
        · exact q.elim
      · exact q.elim
    | _ => exact q.elim

/-! ### items -/
theorem atI_rel {K : PySem.W.Frag} {ρ : List Addr} {H : Hp} {ds : List D} {vs : List V} {i : Int} {d : D} (r : VRels K ρ H ds vs) (e : atI ds i = some d) : ∃ v, atI vs i = some v ∧ VRel K ρ H d v := by
  unfold atI at e ⊢
  rw [← r.length]
  cases h : ixN ds.length i with
  | none =>
    rw [h] at e
    cases e
  | some j =>
    rw [h] at e
    exact r.get e
def ItemOk (L : Lk) : Prop :=
  ∀ (X : Cx) (value slice : Expr) (pins : List (Addr × Obj)) (s : Shared) (σ : L2.St) (H : Hp) (x y : V) (v u : Value) (Q : VK) (W : Value → Option Addr → Hp → Prop) (ρ : List Addr) (h : Hh) (a b : D), X0 L X → Inv X pins σ H s →
    L2.RelV x v → L2.RelV y u → Rep L ρ h H → VRel L.K ρ H a x → VRel L.K ρ H b y → subscripted slice false v u = operate [v, u] (getItem v u) → res L (VR L) ρ H (idxD a b h) Q W → wpAny (model X.prog X.w) X.A (subscriptTail value slice v u) (EP X pins σ Q) X.xe s
theorem item_ok : ItemOk L := by
  intro X value slice pins s σ H x y v u Q W ρ h a b hX I rx ry R ra rb hs q
  cases rb with
  | int k =>
    simp only [idxD] at q
    split at q
    · next xs e =>
      split at q
      · next d hd =>
        obtain ⟨p, vs, rfl, rv, sq⟩ := seq_at (K := X.K) hX.K R ra e
        obtain ⟨w, hw, rw'⟩ := atI_rel rv hd
        have q1 := q.ret R rw'
        rcases sq with sq | ⟨sq, _⟩
        · exact ix_list value slice pins s σ H _ _ v u Q I rx ry ⟨p, vs, k, w, rfl, rfl, sq, hw, q1⟩ hs
        · exact ix_tup value slice pins s σ H _ _ v u Q I rx ry ⟨p, vs, k, w, rfl, rfl, sq, hw, q1⟩ hs
      · exact q.elim
    · exact q.elim
  | _ => exact q.elim
def SetOk (L : Lk) : Prop :=
  ∀ (X : Cx) (pins : List (Addr × Obj)) (s : Shared) (σ : L2.St) (H : Hp) (o i v : V) (ov iv u : Value) (Q : Hp → Prop) (W : Value → Option Addr → Hp → Prop) (ρ : List Addr) (h : Hh) (a b d : D), X0 L X → Inv X pins σ H s →
    L2.RelV o ov → L2.RelV i iv → L2.RelV v u → Rep L ρ h H → VRel L.K ρ H a o → VRel L.K ρ H b i → VRel L.K ρ H d v → res L UR ρ H (setD a b d h) (fun _ => Q) W → wpAny (model X.prog X.w) X.A (setItem ov iv u) (fun _ s' => ∃ H', Inv X pins σ H' s' ∧ Q H') X.xe s
theorem set_ok : SetOk L := by
  intro X pins s σ H o i v ov iv u Q W ρ h a b d hX I ro ri rv R ra rb rd q
  cases ra with
  | @ref r p hr =>
    cases rb with
    | int k =>
      simp only [setD] at q
      split at q
      · next xs hx =>
        split at q
        · next j hj =>
          obtain ⟨vs, e1, r1⟩ := lst_at R hr hx
          refine set_list pins s σ H _ _ _ ov iv u Q I ro ri rv ⟨p, vs, k, j, rfl, rfl, e1, by rw [← r1.length]; exact hj, ?_⟩
          exact q ρ _ () (ext_upd R hr) (R.set hr hx (.lst (r1.set rd j))) trivial
        · exact q.elim
      · exact q.elim
    | _ => exact q.elim
  | _ => cases rb <;> exact q.elim

/-! ### isinstance -/
def tyN : Ty → String
  | .int => "int"
  | .bool => "bool"
  | .str => "str"
  | .tuple => "tuple"
  | .list => "list"
  | .dict => "dict"
theorem kits (K : PySem.W.Frag) (t : Ty) : PySem.W.kitOne K (.type "NoneType") (.type (tyN t)) = some false ∧ PySem.W.kitOne K (.type "bool") (.type (tyN t)) = some (t == .int || t == .bool) ∧
    PySem.W.kitOne K (.type "int") (.type (tyN t)) = some (t == .int) ∧ PySem.W.kitOne K (.type "str") (.type (tyN t)) = some (t == .str) ∧ PySem.W.kitOne K (.type "tuple") (.type (tyN t)) = some (t == .tuple) ∧
    PySem.W.kitOne K (.type "list") (.type (tyN t)) = some (t == .list) ∧ PySem.W.kitOne K (.type "dict") (.type (tyN t)) = some (t == .dict) := by
  cases t <;> exact ⟨kit_ty (by decide +kernel), kit_ty (by decide +kernel), kit_ty (by decide +kernel), kit_ty (by decide +kernel), kit_ty (by decide +kernel), kit_ty (by decide +kernel), kit_ty (by decide +kernel)⟩
theorem tup_ty {K : PySem.W.Frag} {H : Hp} {a : Addr} {xs : List V} (h : TupAt K H a xs) : TyX K H (.ref a) (.type "tuple") := by
  rcases h with h | ⟨o, its, n, h1, h2, _⟩
  · exact .base (.tup h)
  · exact .kTuple h1 h2
theorem isi_ok {X : Cx} {pins : List (Addr × Obj)} {s : Shared} {σ : L2.St} {H : Hp} {x : V} {us : List Value} {Q : VK} {ρ : List Addr} {h : Hh} {d : D} {t : Ty} {k : Bool} (hX : X0 L X) (I : Inv X pins σ H s)
    (r : Vals [x, .ty (tyN t)] us) (R : Rep L ρ h H) (rd : VRel L.K ρ H d x) (e : isTy h t d = some k) (q : Q (.bl k) H) : wpAny (model X.prog X.w) X.A (call (.builtin "isinstance") us) (EP X pins σ Q) X.xe s := by
  obtain ⟨k1, k2, k3, k4, k5, k6, k7⟩ := kits X.K t
  have go : ∀ ty, TyX X.K H x ty → PySem.W.kitOne X.K ty (.type (tyN t)) = some k → wpAny (model X.prog X.w) X.A (call (.builtin "isinstance") us) (EP X pins σ Q) X.xe s := fun ty h1 h2 =>
    call_isi pins s σ H _ us Q I r ⟨x, .ty (tyN t), ty, .type (tyN t), k, rfl, .ty _, h1, h2, q⟩
  cases rd with
  | non =>
    cases e
    exact go _ (.base .non) k1
  | bl b =>
    cases e
    exact go _ (.base (.bl b)) k2
  | int b =>
    cases e
    exact go _ (.base (.int b)) k3
  | str b =>
    cases e
    exact go _ (.base (.str b)) k4
  | tup ht hv =>
    cases e
    exact go _ (tup_ty (by rw [hX.K]; exact ht)) k5
  | scr => cases e
  | ref hr =>
    simp only [isTy] at e
    split at e
    · next xs hx =>
      cases e
      obtain ⟨vs, e1, r1⟩ := lst_at R hr hx
      exact go _ (.base (.lst e1)) k6
    · next kvs hx =>
      cases e
      obtain ⟨vs, e1, r1⟩ := dct_at R hr hx
      exact go _ (.base (.dK e1)) k7
    · cases e
end
end MX
set_option maxHeartbeats 1000000
/-! From the text's own syntax to the small one. -/
namespace MX
open PySem L2

/-- the module's names -/
structure Gb where
  fns : List Str
  gc : List (Str × D)
  bl : List Str
  cls : List Str
  ini : List (Option Nat)
  fld : List Str
  thks : List Str
/-- a block's names -/
structure Cn where
  g : Gb
  N : List Str
  sc : Scope
  pin : List Nat := []
  thk : Option Str := none
  xas : Option Str := none
  hot : Bool := false
  lam : Bool := false
  fnc : Str → Bool := fun _ => true

def posOf : List Str → Str → Option Nat
  | [], _ => none
  | y :: ys, x => if y = x then some 0 else (posOf ys x).map (· + 1)
theorem posOf_get : ∀ {ys : List Str} {x : Str} {i : Nat}, posOf ys x = some i → ys[i]? = some x
  | y :: ys, x, i, h => by
    simp only [posOf] at h
    split at h
    · next e =>
      cases h
      rw [e]
      rfl
    · cases e : posOf ys x with
      | none =>
        rw [e] at h
        cases h
      | some j =>
        rw [e] at h
        cases h
        exact posOf_get (ys := ys) e
def okN (x : Str) : Bool := !(x == ("__debug__" : Str)) && !(x == ("__classdict__" : Str)) && !(x == ("__name__" : Str))
def visB (sc : Scope) (x : Str) : Bool := match sc.names.lookup x with
  | some .local => true
  | some .cell => true
  | some .free => true
  | _ => false
def locB (Γ : Cn) (x : Str) : Bool := match Γ.sc.names.lookup x with
  | some .local => true
  | some .cell => Γ.fnc x
  | _ => false
def globB (sc : Scope) (x : Str) : Bool := decide (sc.names.lookup x = some .globalImplicit) && okN x
def slotOf (Γ : Cn) (x : Str) : Option Nat := if visB Γ.sc x && okN x then posOf Γ.N x else none
/-- a slot that may be stored -/
def storeOf (Γ : Cn) (x : Str) : Option Nat := match locB Γ x && okN x, posOf Γ.N x with
  | true, some i => if i ∈ Γ.pin then none else some i
  | _, _ => none
def cName (Γ : Cn) (x : Str) : Option CE := match slotOf Γ x with
  | some i => some (.slot i)
  | none => if globB Γ.sc x then (Γ.g.gc.lookup x).map .con else none
def cConst : Const → Option CE
  | .none => some (.con .non)
  | .bool b => some (.con (.bl b))
  | .int i => some (.con (.int i))
  | .str x => some (.con (.str x))
  | _ => none
def cBop : Operator → Option BOp
  | .Add => some .add
  | .Sub => some .sub
  | .Mult => some .mul
  | .FloorDiv => some .fdiv
  | .Mod => some .mod
  | .Pow => some .pow
  | _ => none
def cCop : CmpOp → Option COp
  | .Eq => some .eq
  | .NotEq => some .ne
  | .Lt => some .lt
  | .LtE => some .le
  | .Gt => some .gt
  | .GtE => some .ge
  | .In => some .isin
  | .NotIn => some .notin
  | _ => none
def cBt (x : Str) : Option Bt := if x = "len" then some .len else if x = "abs" then some .abs else if x = "max" then some .max else if x = "min" then some .min else if x = "int" then some .int else
  if x = "list" then some .list else if x = "tuple" then some .tuple else if x = "repr" then some .repr else if x = "all" then some .all else none
def cBm (x : Str) : Option Bm := if x = "append" then some .append else if x = "insert" then some .insert else if x = "join" then some .join else none
def cTy (x : Str) : Option Ty := if x = "int" then some .int else if x = "bool" then some .bool else if x = "str" then some .str else if x = "tuple" then some .tuple else if x = "list" then some .list else if x = "dict" then some .dict else none
def noSet : Expr → Bool
  | .Set .. => false
  | _ => true
def noSlice : Expr → Bool
  | .Slice .. => false
  | _ => true
def noParam : Arguments → Bool
  | ⟨[], [], none, [], [], none, []⟩ => true
  | _ => false
/-- the base of a method's call is no bare call of a name -/
def plainO : Expr → Bool
  | .Call (.Name _ _) [] [] _ => false
  | _ => true
def cL (f : Expr → Option CE) : List Expr → Option CEs
  | [] => some .nil
  | e :: es => do
    let a ← f e
    let b ← cL f es
    some (.cons a b)
mutual
def cTg (Γ : Cn) : Nat → Expr → Option Tg
  | 0, _ => none
  | n + 1, .Name x _ => (storeOf Γ x).map .name
  | n + 1, .Tuple es _ _ => if Γ.hot then none else (cTgs Γ n es).map .tup
  | _, _ => none
def cTgs (Γ : Cn) : Nat → List Expr → Option Tgs
  | 0, _ => none
  | n + 1, [] => some .nil
  | n + 1, e :: es => do
    let a ← cTg Γ n e
    let b ← cTgs Γ n es
    some (.cons a b)
end
/-- the comprehension's own names, with their slots -/
def ownOf (N : List Str) (scope : Scope) : List (Str × Nat) := scope.names.filterMap fun y => match y.2 with
  | .local => (posOf N y.1).map fun i => (y.1, i)
  | .cell => (posOf N y.1).map fun i => (y.1, i)
  | _ => none
def cIt (f : Expr → Option CE) (Γ : Cn) (e : Expr) : Option It := match e with
  | .Call (.Name x _) args [] _ => if x = "range" then
      if globB Γ.sc x && decide (x ∈ Γ.g.bl) && (posOf Γ.g.fns x).isNone then match args with
        | [a] => (f a).map .rng
        | _ => none
      else none
    else (f e).map .seq
  | e => (f e).map .seq
def cE : Nat → Cn → Expr → Option CE
  | 0, _, _ => none
  | n + 1, Γ, .Constant c _ _ => cConst c
  | n + 1, Γ, .Name x _ => cName Γ x
  | n + 1, Γ, .BinOp a op b _ => do
    let a' ← cE n Γ a
    let b' ← cE n Γ b
    let o ← cBop op
    some (.bin o a' b')
  | n + 1, Γ, .UnaryOp op a _ => do
    let a' ← cE n Γ a
    match op with
    | .Not => some (.notE a')
    | .USub => some (.neg a')
    | _ => none
  | n + 1, Γ, .BoolOp op es pos => match es with
    | [] => none
    | [a] => cE n Γ a
    | a :: b :: r => do
      let a' ← cE n Γ a
      let b' ← cE n Γ (.BoolOp op (b :: r) pos)
      match op with
      | .And => some (.andE a' b')
      | .Or => some (.orE a' b')
  | n + 1, Γ, .Compare a ops bs _ => match ops, bs with
    | [op], [b] => match op with
      | .Is => match b with
        | .Constant .none _ _ => (cE n Γ a).map .isN
        | _ => none
      | .IsNot => match b with
        | .Constant .none _ _ => (cE n Γ a).map .notN
        | _ => none
      | _ => if noSet b then do
          let a' ← cE n Γ a
          let b' ← cE n Γ b
          let o ← cCop op
          some (.cmp o a' b')
        else none
    | [o1, o2], [b, c] => if noSet b && noSet c then do
        let a' ← cE n Γ a
        let b' ← cE n Γ b
        let c' ← cE n Γ c
        let p1 ← cCop o1
        let p2 ← cCop o2
        some (.chain p1 p2 a' b' c')
      else none
    | _, _ => none
  | n + 1, Γ, .IfExp t a b _ => do
    let t' ← cE n Γ t
    let a' ← cE n Γ a
    let b' ← cE n Γ b
    some (.ife t' a' b')
  | n + 1, Γ, .Tuple es _ _ => (cL (cE n Γ) es).map .tup
  | n + 1, Γ, .List es _ => (cL (cE n Γ) es).map .lst
  | n + 1, Γ, .Dict ks vs _ => match ks, vs with
    | [], [] => some .edct
    | _, _ => none
  | n + 1, Γ, .Subscript a i _ => match i with
    | .Slice none none (some (.UnaryOp .USub (.Constant (.int 1) _ _) _)) _ => (cE n Γ a).map .rev
    | .Slice .. => none
    | _ => do
      let a' ← cE n Γ a
      let i' ← cE n Γ i
      some (.idx a' i')
  | n + 1, Γ, .Attribute o f _ => match o with
    | .Name x _ => match Γ.xas with
      | some y => if x = y then (posOf Γ.g.fld f).map .xat else none
      | none => none
    | _ => none
  | n + 1, Γ, .ListComp elt gs scope _ => if Γ.hot then none else match gs with
    | [⟨tg, iter, ifs, 0⟩] =>
      let own := ownOf Γ.N scope
      if blkC Γ.N Γ.sc scope own && noSet iter then do
        let it ← cIt (cE n Γ) Γ iter
        let Δ : Cn := { Γ with sc := relS scope Γ.sc, pin := [], thk := none, xas := none, lam := false, fnc := fun x => scope.names.lookup x == some .cell }
        let tg' ← cTg Δ n tg
        let elt' ← cE n Δ elt
        let c ← match ifs with
          | [] => some CEs.nil
          | [c] => (cE n Δ c).map fun c' => CEs.cons c' .nil
          | _ => none
        some (.comp elt' (own.map (·.2)) tg' it c)
      else none
    | _ => none
  | n + 1, Γ, .Call f args kws pos => match kws with
    | [] => match f with
      | .Name x _ => if Γ.thk = some x then (match args with
          | [] => some .act
          | _ => none)
        else if globB Γ.sc x then
          match posOf Γ.g.fns x with
          | some i => if Γ.hot then none else match args with
            | [.Lambda params body scope _] => if Γ.lam && noParam params && LamX.lamSB Γ.sc scope && decide (x ∈ Γ.g.thks) then do
                let b ← cE n { Γ with sc := scope, thk := none, xas := none, lam := false, fnc := fun _ => false } body
                some (.lam i b)
              else none
            | _ => (cL (cE n Γ) args).map (.call i)
          | none => if x ∈ Γ.g.bl then
              if x = "isinstance" then match args with
                | [a, .Name t _] => if globB Γ.sc t && decide (t ∈ Γ.g.bl) && !Γ.hot then do
                    let a' ← cE n Γ a
                    let ty ← cTy t
                    some (.isi a' ty)
                  else none
                | _ => none
              else do
                let b ← cBt x
                if Γ.hot && !(b == .repr) then none else do
                  let es ← cL (cE n Γ) args
                  match es with
                  | .nil => none
                  | _ => some (.bt b es)
            else none
        else none
      | .Attribute o m apos => if Γ.hot then none else if plainO o && (apos.endLine == pos.line) && decide (args.length < 30) then do
          let o' ← cE n Γ o
          let b ← cBm m
          let es ← cL (cE n Γ) args
          match es with
          | .nil => none
          | _ => some (.bm b o' es)
        else none
      | _ => none
    | _ => none
  | _, _, _ => none

/-! ### statements -/
def cHd (f : Cn → List Stmt → Option CSs) (Γ : Cn) : List ExceptHandler → Option Hds
  | [] => some .nil
  | .ExceptHandler (some (.Name x _)) as (b :: suite) _ :: r => if globB Γ.sc x then do
      let c ← posOf Γ.g.cls x
      let r' ← cHd f Γ r
      match as with
      | none => do
        let s ← f { Γ with hot := true, lam := false, thk := none, xas := none } (b :: suite)
        some (.cons c none s r')
      | some e => do
        let i ← storeOf Γ e
        if Γ.sc.names.lookup e = some .local then do
          let s ← f { Γ with hot := true, lam := false, thk := none, xas := some e, pin := i :: Γ.pin } (b :: suite)
          some (.cons c (some i) s r')
        else none
    else none
  | _ => none
/-- whether name = [..] stores within the comprehension -/
def swB (Γ : Cn) (x : Str) (p : Pos) (scope : Scope) (q : Pos) : Bool :=
  decide (Γ.sc.names.lookup x = some .local) && p.line == q.line && !(scope.names.any fun (n, k) => n == x && (k == .local || k == .cell))
/-- a, b = x, y: stored from the right -/
def parB (Γ : Cn) (x y : Str) (px py : Pos) (a b : Expr) : Bool :=
  decide (Γ.sc.names.lookup x = some .local) && decide (Γ.sc.names.lookup y = some .local) && px.line == py.line && !(x == y) && !([a, b].all (foldedForSure 8)) && !([a, b].all (constantsAlone 8))
/-- no such exchange: one name is no local one -/
def nparB (Γ : Cn) (ts : List Expr) : Bool := ts.any fun t => match t with
  | .Name x _ => !decide (Γ.sc.names.lookup x = some .local)
  | _ => true
def cAsg (n : Nat) (Γ : Cn) (t e : Expr) : Option CS := match t with
  | .Name x p => match e with
    | .SetComp .. => none
    | .DictComp .. => none
    | .ListComp _ _ scope q => do
      let i ← storeOf Γ x
      let e' ← cE n Γ e
      some (.asg (.name i) e')
    | _ => do
      let i ← storeOf Γ x
      let e' ← cE n Γ e
      some (.asg (.name i) e')
  | .Tuple ts _ _ => if Γ.hot then none else match e with
    | .Tuple vs _ _ => match ts, vs with
      | [.Name x px, .Name y py], [a, b] => if parB Γ x y px py a b then do
          let i ← storeOf Γ x
          let j ← storeOf Γ y
          let es ← cL (cE n Γ) [a, b]
          some (.par [i, j] es)
        else if nparB Γ ts then do
          let t' ← cTg Γ n t
          let e' ← cE n Γ e
          some (.asg t' e')
        else none
      | _, _ => if nparB Γ ts then do
          let t' ← cTg Γ n t
          let e' ← cE n Γ e
          some (.asg t' e')
        else none
    | .Call .. => do
      let t' ← cTg Γ n t
      let e' ← cE n Γ e
      some (.asg t' e')
    | .Name .. => do
      let t' ← cTg Γ n t
      let e' ← cE n Γ e
      some (.asg t' e')
    | .Subscript .. => do
      let t' ← cTg Γ n t
      let e' ← cE n Γ e
      some (.asg t' e')
    | _ => none
  | .Subscript o i _ => if Γ.hot then none else if noSlice i then match e with
    | .SetComp .. => none
    | .DictComp .. => none
    | _ => do
      let e' ← cE n Γ e
      let o' ← cE n Γ o
      let i' ← cE n Γ i
      some (.sets o' i' e')
    else none
  | _ => none
def cRaise (n : Nat) (Γ : Cn) (e : Expr) : Option CS := if Γ.hot then none else match e with
  | .Call (.Name x _) args [] _ => if globB Γ.sc x then do
      let c ← posOf Γ.g.cls x
      match Γ.g.ini[c]? with
      | some none => match args with
        | [.Constant (.str _) _ _] => some (.raiseM c)
        | _ => none
      | some (some f) => match args with
        | [a] => (cE n Γ a).map (.raiseI c f)
        | _ => none
      | none => none
    else none
  | _ => none
mutual
def cS : Nat → Cn → Stmt → Option CS
  | 0, _, _ => none
  | n + 1, Γ, .Return v _ => match v with
    | some e => (cE n Γ e).map .ret
    | none => some .retN
  | n + 1, Γ, .Expr e _ => match e with
    | .ListComp .. => none
    | .SetComp .. => none
    | .DictComp .. => none
    | _ => (cE n Γ e).map .expr
  | n + 1, Γ, .Assign ts e _ => match ts with
    | [t] => cAsg n Γ t e
    | _ => none
  | n + 1, Γ, .If c a b _ => do
    let c' ← cE n Γ c
    let a' ← cSs n Γ a
    let b' ← cSs n Γ b
    some (.ifS c' a' b')
  | n + 1, Γ, .For t it body orelse _ => if Γ.hot then none else match orelse with
    | [] => if noSet it then do
        let t' ← cTg Γ n t
        let it' ← cIt (cE n Γ) Γ it
        let b' ← cSs n Γ body
        some (.forS t' it' b')
      else none
    | _ => none
  | n + 1, Γ, .While c body orelse _ => if Γ.hot then none else match orelse with
    | [] => do
      let c' ← cE n Γ c
      let b' ← cSs n Γ body
      some (.whileS c' b')
    | _ => none
  | n + 1, Γ, .Raise e c _ => match e, c with
    | some e, none => cRaise n Γ e
    | _, _ => none
  | n + 1, Γ, .Try body hs orelse fin _ => if Γ.hot || Γ.xas.isSome then none else match orelse, fin, hs with
    | [], [], _ :: _ => do
      let b' ← cSs n Γ body
      let hs' ← cHd (cSs n) Γ hs
      some (.tryS b' hs')
    | _, _, _ => none
  | _ + 1, _, .Pass _ => some .pass
  | _ + 1, _, .Break _ => some .brk
  | _ + 1, _, .Continue _ => some .cnt
  | _, _, _ => none
def cSs : Nat → Cn → List Stmt → Option CSs
  | 0, _, _ => none
  | _ + 1, _, [] => some .nil
  | n + 1, Γ, s :: ss => do
    let a ← cS n Γ s
    let b ← cSs n Γ ss
    some (.cons a b)
end
end MX
set_option maxHeartbeats 2000000
/-! Calls of the module's defs, where no container is being shown. -/
namespace MX
open PySem PySem.Spec PyProof.Rows L2

structure FnM (P : Program) (w : World) (K : PySem.W.Frag) (mg : Str → Option Value) (base : Heap) (k : Nat) (f : Addr) (fd : FuncData) (ps : List Str) (sp : Sp) : Prop where
  len : ∀ vs H Q E, sp vs H Q E → vs.length = ps.length
  run : ∀ (A : Around) (outer : List PySem.Env) (s : Shared) (H : Hp) (args : Args) (us : List Value) (vs : List V) (Q : VK) (E : XK), Room k A → A.guards = some [] → Env0 P w K mg base A outer s H →
    BindsTo s fd args (ps.zip us) → Vals vs us → sp vs H Q E → codeAny (model P w) A (.call (.ref f) args) (CR (L2.CX P w) outer P w H s Q E) s
theorem deeper_guards (A : Around) (env : PySem.Env) : (A.deeper env).guards = A.guards := rfl
section
variable {X : Cx} {k : Nat} {f : Addr} {fd : FuncData} {ps : List Str} {sp : Sp}
theorem run_fnM {pins : List (Addr × Obj)} {σ : L2.St} {H : Hp} {s : Shared} {Q : VK} {E : XK} {us : List Value} {vs : List V} (F : FnM X.prog X.w X.K X.mg X.base k f fd ps sp) (hr : Room k X.A) (hg : X.A.guards = some [])
    (hb : Binds X.K fd ps []) (hx : PassesAt (L2.CX X.prog X.w) X σ E) (I : Inv X pins σ H s) (r : Vals vs us) (h : sp vs H Q E) : wpAny (model X.prog X.w) X.A (call (.ref f) us) (EP X pins σ Q) X.xe s := by
  have hl : us.length = ps.length := r.length.symm.trans (F.len _ _ _ _ h)
  have hbd := hb s us I.kIn (by rw [List.append_nil]; exact hl)
  rw [List.append_nil] at hbd
  refine wpAny_call (codeAny_mono (F.run X.A X.stack s H _ us vs Q E hr hg I.env0 hbd r h) fun r s' hq => ?_)
  match r, hq with
  | .error e, hq => exact hx pins H s e s' I hq
  | .ok (.ret u), hq => exact I.after hq
  | .ok .next, hq => exact hq.elim
  | .ok .brk, hq => exact hq.elim
  | .ok .cont, hq => exact hq.elim
end
/-- a def by its body -/
theorem fnM_of {P : Program} {w : World} {K : PySem.W.Frag} {mg : Str → Option Value} {base : Heap} {k : Nat} {f : Addr} {name qual : Str} {params : Arguments} {body : List Stmt} {scope : Scope} {dV kV doc pm cdv ct oc : Value} {an od : Option Addr}
    {osl : Array (Option Value)} {N ps : List Str} {sp : Sp} (lk : K.lookup f = some ⟨oc, od, .func (PySem.W.fnOf name qual params body scope dV kV doc pm an cdv ct), osl⟩) (hcd : PySem.W.codeIn K cdv qual = true) (S : FnScope N ps scope)
    (len : ∀ vs H Q E, sp vs H Q E → vs.length = ps.length)
    (hbody : ∀ (A : Around) (outer : List PySem.Env) (s : Shared) (H : Hp) (vs : List V) (Q : VK) (E : XK), Room k (A.deeper (envOfC qual scope s.heap.objs.size f cdv)) → A.guards = some [] → sp vs H Q E →
      ∃ t, PSs (cxOf (L2.CX P w) P w K mg base N qual scope f cdv A outer s H E) body t ∧ t { nx := fun _ H' => Q .non H', rt := Q } (L2.start N vs) H) :
    FnM P w K mg base (k + 1) f (PySem.W.fnOf name qual params body scope dV kV doc pm an cdv ct) ps sp :=
  ⟨len, fun A outer s H args us vs Q E hr hg e0 hb r hsp => LamX.run_ofS lk hcd S hr e0 hb r (len _ _ _ _ hsp) fun hr' => hbody A outer s H vs Q E hr' hg hsp⟩
end MX
namespace MX
open PySem PySem.Spec PyProof.Rows L2
/-! ### an own exception with one field, over any built-in one -/
section
open Builtin Builtin.ObjectAttr
variable {prog : Program} {w : World} {A : Around} {E : Value → Shared → Prop} {R : Result → Shared → Prop} {hp : Heap} {g : Array GenState} {d : Drawn} {t : Nat} {os : OsState}
/-- object.__setattr__, the first field -/
theorem osa_first {K : PySem.W.Frag} {B : String} {bmB : List Value} {name : Str} {tk : Tok} {v : Value} {x C : Addr} {fv : Array Value} {cd : ClassData} (SF : StoreFacts B bmB "object.__setattr__" "object") (X : K.In hp)
    (hx : hp.get? x = some { cls := .ref C, data := .fields fv }) (hp2 : PySem.W.excOver K C bmB = true) (hcd : PySem.W.clsIn K C = some cd) (hh : cd.hasDict = true) (ht : PySem.W.takerIn K C name = some none)
    (hq : ∀ h' tk' dx, (∀ b o, b ≠ x → hp.get? b = some o → h'.get? b = some o) → hp.objs.size ≤ dx → dx ≠ x → h'.get? x = some { cls := .ref C, dict := some dx, data := .fields fv } →
      h'.Ns1 dx (fun y => if y = name then some v else none) → R (.ok (.ret .none)) ⟨h', g, d, tk', os⟩) :
    codeAny (model prog w) A (.call (.builtin "object.__setattr__") ⟨[.ref x, .str name tk, v], []⟩) R ⟨hp, g, d, t, os⟩ := by
  have I : PySem.W.InstAt hp x { cls := .ref C, data := .fields fv } C none := ⟨hx, rfl, rfl, trivial⟩
  have look : PySem.W.Looks (model prog w) hp (classData C) cd := PySem.W.looks_clsIn X hcd
  have new : x ≠ hp.objs.size := Nat.ne_of_lt (Heap.lt_size hx)
  refine PySem.W.osa_openX SF X I hp2 ht fun b => ?_
  show wpAny _ _ (storeInOwnDict (.ref x) (.ref C) (.str name tk) name v b) _ _ _
  obtain ⟨nm, bs, mro, ns, qn, hd, sn, sb, ab, col, del⟩ := cd
  dsimp only at hh
  subst hh
  unfold storeInOwnDict ownDictForStores
  repeat (first | with_reducible refine PySem.HandSPX.store_in_new ?_ ?_ | with_reducible refine wpAny_loadPart_at hx ?_ | with_reducible refine look.at ?_ | wp_step)
  · exact ⟨_, #[], _, (Heap.get?_update_ne _ _ _ _ new.symm).trans (Heap.get?_push_at rfl rfl), rfl, fun e he => absurd he (by simp), fun _ => rfl⟩
  · intro h' tk' put same
    have there : (hp.push { cls := .type "dict", data := .dict #[] }).get? x = some { cls := .ref C, data := .fields fv } := Heap.get?_push_of_some _ hx
    exact hq h' tk' hp.objs.size (fun b o hb ho => (same.2 b (Nat.ne_of_lt (Heap.lt_size ho))).trans ((Heap.get?_update_ne _ _ _ _ hb).trans (Heap.get?_push_of_some _ ho))) (Nat.le_refl _) new.symm
      ((same.2 x new).trans (Heap.get?_update_self _ there rfl)) put
end
/-- what the written part says of such a class -/
structure IniC (K : PySem.W.Frag) (C fI : Addr) (f : Str) : Prop where
  ex : ∃ (B newId initId : String) (bmB : List Value) (cd : ClassData), ExcBaseFacts B newId initId bmB ∧ StoreFacts B bmB "object.__setattr__" "object" ∧ PySem.W.excInitIn K C bmB newId = true ∧ PySem.W.excOver K C bmB = true ∧ PySem.W.clsIn K C = some cd ∧ cd.hasDict = true
  tak : PySem.W.takerIn K C f = some none
  sa : PySem.W.findIn K (.ref C) "__setattr__" = some (some (.builtin "object.__setattr__"))
  exC : PySem.W.subIn K (.ref C) (.type "BaseException") = some true
  tyC : PySem.W.typeIn K (.ref C) = some (.type "type")
  kC : PySem.W.keepIn K (.ref C) = true
  ini : PySem.W.findIn K (.ref C) "__init__" = some (some (.ref fI))
  tI : PySem.W.typeIn K (.ref fI) = some (.type "function")
section
variable {X : Cx} {pins : List (Addr × Obj)} {σ : L2.St} {H : Hp} {s : Shared} {a C fI : Addr} {f : Str} {y : V} {u : Value}
/-- self.f = y -/
theorem put_first {Q : Unit → Shared → Prop} {E : Value → Shared → Prop} {A : Around} (T : IniC X.K C fI f) (I : Inv X pins σ H s) (e : H a = some (exo a C none)) (ry : L2.RelV y u)
    (h : ∀ dx s', H dx = none → dx ≠ a → Inv X pins σ (upd (upd H dx (exd dx [(f, y)])) a (exo a C (some dx))) s' → Q () s') : wpAny (model X.prog X.w) A (setAttr (.ref a) f u) Q E s := by
  obtain ⟨B, newId, initId, bmB, cd, _, SF, _, ov, hcl, hdct⟩ := T.ex
  obtain ⟨t1, ho⟩ := exo_at I.hok e
  obtain ⟨hp, g, d, t, os⟩ := s
  refine PySem.W.set_plain I.kIn (ox := { cls := .ref C, dict := none, data := .fields #[.ref t1, .none, .none, .none, .bool false, .none] }) (od := none) ⟨ho, rfl, rfl, trivial⟩ T.sa ?_
  refine osa_first SF I.kIn ho ov hcl hdct T.tak (fun h' tk' dx k dn dne hx hn => ?_)
  have free : H dx = none := I.hok.fresh dn
  have old : ∀ {b : Addr} {o : Obj}, hp.get? b = some o → b ≠ dx := fun {b o} z => Nat.ne_of_lt (Nat.lt_of_lt_of_le (Heap.lt_size z) dn)
  have off : ∀ {b : Addr}, H b = none → b ≠ a := fun {b} n z => by
    rw [z, e] at n
    cases n
  have grown : Un X.fs [] H (upd (upd H dx (exd dx [(f, y)])) a (exo a C (some dx))) hp h' := {
    keep := fun b o z n _ _ => k b o (off n) z
    slot := fun b o z n _ _ => ⟨o.slots, k b o (off n) z⟩
    free := fun b o z n _ => by
      rw [upd_ne (off n), upd_ne (old z)]
      exact n
    there := fun b o z _ => by
      by_cases hb : b = a
      · rw [hb]
        exact ⟨_, hx⟩
      · exact ⟨o, k b o hb z⟩
    tups := fun b xs z => by
      rw [upd_ne (at_ne e z exo_tup), upd_ne (ne_of_none z free)]
      exact z
    frzs := fun b o v z => by
      rw [upd_ne (at_ne e z exo_frz), upd_ne (ne_of_none z free)]
      exact z
    tbls := fun b ps z => ⟨#[], by
      rw [upd_ne (at_ne e z exo_tbl), upd_ne (ne_of_none z free), z]
      simp⟩ }
  refine h dx _ free dne (I.un (t' := tk') grown fun b o z => ?_)
  by_cases hb : b = a
  · subst hb
    rw [upd_same] at z
    cases z
    exact exo_ok hx
  · rw [upd_ne hb] at z
    by_cases hd : b = dx
    · subst hd
      rw [upd_same] at z
      cases z
      exact exd_ok hn (relO_put (fs := []) ry fun g => True.intro)
    · rw [upd_ne hd] at z
      refine (I.hok b o z).stay (fun c v hc z2 => k c v ?_ z2) (fun c hc => ?_) (fun c xs hc => ?_)
      · rcases hc with hc | hc
        · rw [hc]
          exact hb
        · exact at_ne e hc exo_own
      · rw [upd_ne (at_ne e hc exo_own), upd_ne (ne_of_none hc free)]
        exact hc
      · rw [upd_ne (at_ne e hc exo_tup), upd_ne (ne_of_none hc free)]
        exact hc
/-- X(e), X's __init__ being self.f = value -/
structure IniD (K : PySem.W.Frag) (C : Addr) (f : Str) : Prop where
  ex : ∃ (fI : Addr) (self val qual : Str) (params : Arguments) (scope : Scope) (dV kV doc pm cdv ct oc : Value) (an od : Option Addr) (osl : Array (Option Value)) (p1 p2 p3 p4 : Pos), IniC K C fI f ∧
    K.lookup fI = some ⟨oc, od, .func (PySem.W.fnOf "__init__" qual params [.Assign [.Attribute (.Name self p1) f p2] (.Name val p3) p4] scope dV kV doc pm an cdv ct), osl⟩ ∧ PySem.W.codeIn K cdv qual = true ∧
    Binds K (PySem.W.fnOf "__init__" qual params [.Assign [.Attribute (.Name self p1) f p2] (.Name val p3) p4] scope dV kV doc pm an cdv ct) [self, val] [] ∧ FnScope [self, val] [self, val] scope ∧
    Vis scope self ∧ Vis scope val ∧ (self == ("__debug__" : Str)) = false ∧ (self == ("__classdict__" : Str)) = false ∧ (val == ("__debug__" : Str)) = false ∧ (val == ("__classdict__" : Str)) = false
theorem pmk_ini {x : Str} {e : Expr} {te : TE} {k : Nat} {p1 pos : Pos} (T : IniD X.K C f) (hr : Room (k + 2) X.A) (hg : Gl X x) (hm : X.mg x = some (.ref C)) (he : PE X e te) (hdb : (x == ("__debug__" : Str)) = false) (hst : ∀ es, starEach (e :: es) X.env = (false, eval e X.env) :: starEach es X.env) :
    PMk X (.Call (.Name x p1) [e] [] pos) (fun σ H Q => te σ H fun v H1 => ∀ d, H1 d = none → Q (.ref C) (some d) (upd H1 d (.xd [(f, v)]))) := by
  intro pins s σ H Q I h
  obtain ⟨fI, self, val, qual, params, scope, dV, kV, doc, pm, cdv, ct, oc, an, od, osl, z1, z2, z3, z4, T, lk, hcd, hb, S, v1, v2, n1, n2, n3, n4⟩ := T.ex
  obtain ⟨B, newId, initId, bmB, cd, FB, SF, ei, ov, hcl, hdct⟩ := T.ex
  refine wpAny_Call_Name_kw (ld_glob I hg hm ?_ hdb)
  have pa : PA X [e] (tCons te tNil) := pa_cons he pa_nil (hst [])
  refine PySem.W.callWith_K (h₀ := X.base) I.ok.mod.kin T.kC (thn (pa.run pos pins s σ H (fun vs H1 => ∃ v, vs = [v] ∧ ∀ d, H1 d = none → Q (.ref C) (some d) (upd H1 d (.xd [(f, v)]))) I ?_) fun us s1 ⟨vs, H1, I1, r1, v, ev, q1⟩ => ⟨I1.kIn, ?_⟩) (hst []) (by rfl)
  · have : te σ H (fun x H1 => ∃ v, [x] = [v] ∧ ∀ d, H1 d = none → Q (.ref C) (some d) (upd H1 d (.xd [(f, v)]))) := by
      have e2 : (fun x H1 => ∃ v, [x] = [v] ∧ ∀ d, H1 d = none → Q (.ref C) (some d) (upd H1 d (.xd [(f, v)]))) = fun v H1 => ∀ d, H1 d = none → Q (.ref C) (some d) (upd H1 d (.xd [(f, v)])) := by
        funext x H1
        refine propext ⟨fun ⟨v, e, q⟩ => ?_, fun q => ⟨x, rfl, q⟩⟩
        cases e
        exact q
      rw [e2]
      exact h
    exact this
  · subst ev
    obtain ⟨u, rfl, ru⟩ := vals1 r1
    show wpAny _ _ (call (.ref C) [u]) _ _ _
    obtain ⟨hp, g, dr, tk, os⟩ := s1
    obtain ⟨nm, N, qn, bs, bm, hdct', sn, sub, ab, col, dd, k0, k1, k2, k3, k5, hC, hT⟩ := PySem.W.excInit_of I1.kIn ei
    have gr : hp.objs.size ≤ hp.objs.size + 1 := Nat.le_succ _
    have hn : H1 (hp.objs.size + 1) = none := I1.hok.fresh gr
    have kk : ∀ b o, hp.get? b = some o → ((hp.push (PySem.W.kdv_tup [u])).push (PySem.HandSPX.excO C hp.objs.size)).get? b = some o := fun b o e => Heap.get?_push_of_some _ (Heap.get?_push_of_some _ e)
    have hget : ((hp.push (PySem.W.kdv_tup [u])).push (PySem.HandSPX.excO C hp.objs.size)).get? (hp.objs.size + 1) = some (PySem.HandSPX.excO C hp.objs.size) := by heap_get
    have I2 : Inv X pins σ (upd H1 (hp.objs.size + 1) (exo (hp.objs.size + 1) C none)) ⟨(hp.push (PySem.W.kdv_tup [u])).push (PySem.HandSPX.excO C hp.objs.size), g, dr, tk, os⟩ :=
      I1.laid (t' := tk) (a := hp.objs.size + 1) (o := exo (hp.objs.size + 1) C none) (h' := (hp.push (PySem.W.kdv_tup [u])).push (PySem.HandSPX.excO C hp.objs.size)) kk gr (exo_ok hget)
    refine wpAny_call (PySem.HandSPX.call_own FB hT hC (PySem.W.looks_findIn I1.kIn T.ini) (fun self => PySem.W.bind_fn I1.kIn self T.tI) (by show 1 ≤ sizeLine; decide) ?_)
    have hr1 : Room (k + 1) (X.A.under (.builtin "type.__call__" ⟨.ref C :: [u], []⟩)) := hr.make C [u] []
    refine codeAny_mono (LamX.run_ofS (CX := L2.CX X.prog X.w) (K := X.K) (mg := X.mg) (base := X.base) (N := [self, val]) (ps := [self, val]) (us := [.ref (hp.objs.size + 1), u]) (vs := [.ref (hp.objs.size + 1), v])
      (Q := fun w H2 => w = .non ∧ ∃ d, H1 d = none ∧ d ≠ hp.objs.size + 1 ∧ H2 = upd (upd (upd H1 (hp.objs.size + 1) (exo (hp.objs.size + 1) C none)) d (exd d [(f, v)])) (hp.objs.size + 1) (exo (hp.objs.size + 1) C (some d))) (E := fun _ _ _ => False)
      lk hcd S hr1 (I2.env0.make C [u] []) (hb _ [.ref (hp.objs.size + 1), u] I2.kIn rfl) (.cons rfl (.cons ru .nil)) rfl fun hr2 => ?_) fun r s' hq => ?_
    · refine ⟨fun D σ' H' => σ' = L2.start [self, val] [.ref (hp.objs.size + 1), v] ∧ H' (hp.objs.size + 1) = some (exo (hp.objs.size + 1) C none) ∧ ∀ d, H' d = none → d ≠ hp.objs.size + 1 → D.nx σ' (upd (upd H' d (exd d [(f, v)])) (hp.objs.size + 1) (exo (hp.objs.size + 1) C (some d))), ?_, rfl, upd_same, fun d h1 h2 => ?_⟩
      · refine pss_one ⟨fun pz sz σz Hz D Iz ⟨e1, e2, e3⟩ => ?_⟩
        refine plainObj_wpAny_Assign_Attribute (thn ((pe_var (i := 1) (x := val) (by rfl) v2 n3 n4).run pz sz σz Hz (fun y H => y = v ∧ H = Hz) Iz ⟨v, by rw [e1]; rfl, rfl, rfl⟩) fun uv s2 ⟨y, H2, J2, r2, e4, e5⟩ => ?_) (by rfl)
        subst e4 e5
        refine thn ((pe_var (i := 0) (x := self) (by rfl) v1 n1 n2).run pz s2 σz H2 (fun y H => y = .ref (hp.objs.size + 1) ∧ H = H2) J2 ⟨.ref (hp.objs.size + 1), by rw [e1]; rfl, rfl, rfl⟩) fun us s3 ⟨y3, H3, J3, r3, e6, e7⟩ => ?_
        subst e6 e7
        cases (show us = Value.ref (hp.objs.size + 1) from r3)
        exact put_first T J3 e2 r2 fun dx s4 w1 w2 J4 => ⟨σz, _, J4, e3 dx w1 w2⟩
      · rw [upd_ne h2] at h1
        exact ⟨rfl, d, h1, h2, rfl⟩
    · match r, hq with
      | .error er, hq => 
        obtain ⟨_, _, _, _, _, _, _, _, _, _, _, _, z⟩ := hq
        exact z.elim
      | .ok (.ret w'), hq =>
        obtain ⟨w, H2, os2, bare2, un2, hok2, rv, ev, d, hd1, hda, eH⟩ := hq
        subst ev
        subst eH
        obtain ⟨h2, g2, d2, t2, os'⟩ := s'
        refine ⟨rv, mk_end (d := d) (fs := [(f, v)]) (raises_own T.exC T.tyC) I1 gr kk un2 hok2 os2 bare2 upd_same (by rw [upd_ne hda, upd_same]) hd1 ?_⟩
        have e8 : upd (del (upd (upd (upd H1 (hp.objs.size + 1) (exo (hp.objs.size + 1) C none)) d (exd d [(f, v)])) (hp.objs.size + 1) (exo (hp.objs.size + 1) C (some d))) (hp.objs.size + 1)) d (.xd [(f, v)]) = upd H1 d (.xd [(f, v)]) := by
          funext b
          by_cases hb : b = d
          · rw [hb, upd_same, upd_same]
          · rw [upd_ne hb, upd_ne hb]
            by_cases h3 : b = hp.objs.size + 1
            · rw [h3, del_same, hn]
            · rw [del_ne h3, upd_ne h3, upd_ne hb, upd_ne h3]
        rw [e8]
        exact q1 d hd1
      | .ok .next, hq => exact False.elim hq
      | .ok .brk, hq => exact False.elim hq
      | .ok .cont, hq => exact False.elim hq
end
end MX
set_option maxHeartbeats 4000000
/-! The mirror is sound: expressions. -/
namespace MX
open PySem PySem.Spec PyProof.Rows L2

/-- what the i-th def promises, called at level n + 1: what the mirror says -/
def spF (L : Lk) (n i : Nat) (ps : List Str) : Sp := fun vs H Q E => vs.length = ps.length ∧ ∃ ρ h ds, Rep L ρ h H ∧ VRels L.K ρ H ds vs ∧ res L (VR L) ρ H ((mkCl L.pg (tabs L.pg n)).call i ds h) Q E
structure FnS (L : Lk) (P : Program) (w : World) (base : Heap) (n i : Nat) (x : Str) : Prop where
  ex : ∃ (a : Addr) (fd : FuncData) (ps : List Str), L.mg x = some (.ref a) ∧ PySem.W.keepIn L.K (.ref a) = true ∧ Binds L.K fd ps [] ∧ FnM P w L.K L.mg base (n + 1) a fd ps (spF L n i ps) ∧
    ∀ fd, L.pg.fns[i]? = some fd → fd.np = ps.length
/-- the module's names, as they stand -/
structure GbOk (L : Lk) (g : Gb) : Prop where
  gc : ∀ x d, g.gc.lookup x = some d → ∃ v u, L.mg x = some u ∧ L2.RelV v u ∧ ∀ ρ H, VRel L.K ρ H d v
  bl : ∀ x, x ∈ g.bl → L.mg x = none
  fld : ∀ i x, g.fld[i]? = some x → L.fld i = x
  cls : ∀ x c, posOf g.cls x = some c → c < L.nc ∧ L.mg x = some (.ref (L.clA c))
  sub : ∀ i c, i < L.nc → c < L.nc → PySem.W.exmOne L.K (.ref (L.clA i)) (.ref (L.clA c)) = some (L.pg.sub i c)
  exo : ∀ c, c < L.nc → g.ini[c]? = some none → ∃ (B newId initId : String) (bmB : List Value), ExcBaseFacts B newId initId bmB ∧ PySem.W.excIn L.K (L.clA c) bmB newId = true ∧ PySem.W.keepIn L.K (.ref (L.clA c)) = true ∧
    PySem.W.subIn L.K (.ref (L.clA c)) (.type "BaseException") = some true ∧ PySem.W.typeIn L.K (.ref (L.clA c)) = some (.type "type")
  exi : ∀ c f, c < L.nc → g.ini[c]? = some (some f) → IniD L.K (L.clA c) (L.fld f) ∧ XfC L.K (L.clA c) ∧ PySem.W.findIn L.K (.ref (L.clA c)) (L.fld f) = some none
  fnv : ∀ x i, posOf g.fns x = some i → ∃ a, L.mg x = some (.ref a) ∧ PySem.W.keepIn L.K (.ref a) = true
/-- what the i-th def promises at level m + 1, handed a lambda: what the mirror says -/
structure ThkS (L : Lk) (P : Program) (w : World) (base : Heap) (m i : Nat) (x : Str) : Prop where
  ex : ∃ (a : Str) (g : Addr) (Ng : List Str) (pg : Arguments) (bg : List Stmt) (sg : Scope) (dV kV doc pm cdv ct oc : Value) (an od : Option Addr) (osl : Array (Option Value)), L.mg x = some (.ref g) ∧
    L.K.lookup g = some ⟨oc, od, .func (PySem.W.fnOf x x pg bg sg dV kV doc pm an cdv ct), osl⟩ ∧ PySem.W.codeIn L.K cdv x = true ∧ Binds L.K (PySem.W.fnOf x x pg bg sg dV kV doc pm an cdv ct) [a] [] ∧ FnScope Ng [a] sg ∧ Ng[0]? = some a ∧ Vis sg a ∧
    (a == ("__debug__" : Str)) = false ∧ (a == ("__classdict__" : Str)) = false ∧ (∀ fd, L.pg.fns[i]? = some fd → fd.ns = Ng.length) ∧
    ∀ (A : Around) (outer : List PySem.Env) (s : Shared) (H : Hp) (E : XK) (f : Addr) (ρ0 : List Addr) (H0 : Hp) (m0 : M D) (fd : FD), Room m (A.deeper (envOfC x sg s.heap.objs.size g cdv)) → A.guards = some [] → L.pg.fns[i]? = some fd →
      (∀ (pn : List (Addr × Obj)) (xe : Value → Shared → Prop) (W : WX) (q1 q2 : Pos), Takes ((cxOf (L2.CX P w) P w L.K L.mg base Ng x sg g cdv A outer s H E).tr pn xe) W →
        PE ((cxOf (L2.CX P w) P w L.K L.mg base Ng x sg g cdv A outer s H E).tr pn xe) (.Call (.Name a q1) [] [] q2) (tM L ⟨[(0, .ref f)], ρ0, H0⟩ (VR L) (fun _ => m0) W)) →
      fd.thk = true → PSs (cxOf (L2.CX P w) P w L.K L.mg base Ng x sg g cdv A outer s H E) bg (tS L ⟨[(0, .ref f)], ρ0, H0⟩ (exSs ⟨L.pg, tabs L.pg m, some m0, none⟩ fd.body) (fun c d _ H' => E c d H'))
/-- a context in which lambdas may be made -/
structure LamOk (L : Lk) (X : Cx) : Prop where
  tab : ∃ c P, LamX.TabB X.base X.mg c P ∧ X.env.code = .ref c ∧ (P, X.env.qual ++ "<lambda>") ∈ L.T ∧ ∀ q ∈ L.T, q.1 = P → q.2 = X.env.qual ++ "<lambda>"

/-- a context that the mirror speaks of -/
structure CxOk (L : Lk) (Γ : Cn) (n : Nat) (ev : Ev) (p : Pn) (X : Cx) : Prop where
  x0 : X0 L X
  gb : GbOk L Γ.g
  N : X.N = Γ.N
  nd : Γ.N.Nodup
  sc : X.env.scope = Γ.sc
  pin : p.pv.map (·.1) = Γ.pin
  room : Γ.hot = false → Room n X.A
  calm : Γ.hot = false → X.calm = true
  fn : ∀ x, Γ.fnc x = true → X.fn x = true
  pg : ev.pg = L.pg
  lev : ev.l = tabs L.pg n
  fns : ∀ k m, k + m + 1 = n → ∀ i x, posOf Γ.g.fns x = some i → FnS L X.prog X.w X.base m i x
  thk : ∀ x, Γ.thk = some x → ∃ m, ev.thk = some m ∧ ∀ (pn : List (Addr × Obj)) (xe : Value → Shared → Prop) (W : WX) (q1 q2 : Pos), Takes (X.tr pn xe) W → PE (X.tr pn xe) (.Call (.Name x q1) [] [] q2) (tM L p (VR L) (fun _ => m) W)
  xas : ∀ x, Γ.xas = some x → ∃ y, ev.xc = some y ∧ ∀ (f : Nat) (W : WX) (q1 q2 : Pos), PE X (.Attribute (.Name x q1) (L.fld f) q2) (tM L p (VR L) (fun _ => M.opt (y.fs.lookup f)) W)
  thks : ∀ k m, k + m + 1 = n → ∀ i x, posOf Γ.g.fns x = some i → x ∈ Γ.g.thks → ThkS L X.prog X.w X.base m i x
  lam : Γ.lam = true → LamOk L X

section
variable {L : Lk} {Γ : Cn} {n : Nat} {ev : Ev} {p : Pn} {X : Cx}
/-! ### the forms of composition -/
/-- run the first part of a bind -/
theorem tM_bind {α β γ δ : Type} {P : List Addr → Hp → α → β → Prop} {P' : List Addr → Hp → γ → δ → Prop} {m : Env → M α} {f : Env → α → M γ} {W : WX} {σ : L2.St} {H : Hp} {Q : δ → Hp → Prop}
    (h : tM L p P' (fun env => M.bind (m env) (f env)) W σ H Q) : tM L p P m W σ H (fun b H1 => ∃ ρ1 env h1 a, Rep L ρ1 h1 H1 ∧ ERel L.K ρ1 H1 env σ ∧ Past p ρ1 H1 ∧ P ρ1 H1 a b ∧ res L P' ρ1 H1 (f env a h1) Q (fun c d H' => W c d σ H')) := by
  obtain ⟨pn, ρ, env, h0, R, er, pa, r⟩ := h
  refine ⟨pn, ρ, env, h0, R, er, pa, (res.bind (P := P) r).mono fun b H1 => ?_⟩
  rintro ⟨ρ1, h1, a, e, R1, pr, r1⟩
  exact ⟨ρ1, env, h1, a, R1, er.mono e, pa.trans e, pr, r1⟩
/-- go on with a further part at a state that is reached -/
theorem tM_next {α β γ δ : Type} {P : List Addr → Hp → α → β → Prop} {P' : List Addr → Hp → γ → δ → Prop} {m : Env → M α} {f : Env → α → M γ} {W : WX} {σ : L2.St} {H : Hp} {Q : δ → Hp → Prop} {ρ : List Addr} {env : Env} {h : Hh}
    (pn : Pins p σ) (R : Rep L ρ h H) (er : ERel L.K ρ H env σ) (pa : Past p ρ H) (r : res L P' ρ H (M.bind (m env) (f env) h) Q (fun c d H' => W c d σ H')) {Q2 : β → Hp → Prop}
    (k : ∀ ρ1 H1 h1 a b, Ext ρ H ρ1 H1 → Rep L ρ1 h1 H1 → ERel L.K ρ1 H1 env σ → Past p ρ1 H1 → P ρ1 H1 a b → res L P' ρ1 H1 (f env a h1) Q (fun c d H' => W c d σ H') → Q2 b H1) : tM L p P m W σ H Q2 := by
  refine ⟨pn, ρ, env, h, R, er, pa, (res.bind (P := P) r).mono fun b H1 => ?_⟩
  rintro ⟨ρ1, h1, a, e, R1, pr, r1⟩
  exact k ρ1 H1 h1 a b e R1 (er.mono e) (pa.trans e) pr r1
theorem gl_of (C : CxOk L Γ n ev p X) {x : Str} (h : globB Γ.sc x = true) : Gl X x ∧ (x == ("__debug__" : Str)) = false ∧ (x == ("__classdict__" : Str)) = false ∧ x ≠ "__name__" := by
  unfold globB okN at h
  simp only [Bool.and_eq_true, decide_eq_true_eq, Bool.not_eq_true'] at h
  refine ⟨?_, h.2.1.1, h.2.1.2, by simpa using h.2.2⟩
  show X.env.scope.names.lookup x = _
  rw [C.sc]
  exact h.1
theorem vis_of (C : CxOk L Γ n ev p X) {x : Str} {i : Nat} (h : slotOf Γ x = some i) : X.N[i]? = some x ∧ Vis X.env.scope x ∧ (x == ("__debug__" : Str)) = false ∧ (x == ("__classdict__" : Str)) = false := by
  unfold slotOf at h
  split at h
  · next hb =>
    simp only [Bool.and_eq_true, okN, Bool.not_eq_true'] at hb
    refine ⟨by rw [C.N]; exact posOf_get h, ?_, hb.2.1.1, hb.2.1.2⟩
    rw [C.sc]
    unfold visB at hb
    have := hb.1
    split at this
    · next e => exact .inl e
    · next e => exact .inr (.inl e)
    · next e => exact .inr (.inr e)
    · cases this
  · cases h
theorem pe_slot (C : CxOk L Γ n ev p X) {x : Str} {i : Nat} {pos : Pos} (h : slotOf Γ x = some i) (W : WX) : PE X (.Name x pos) (tM L p (VR L) (evE ev (.slot i)) W) := by
  obtain ⟨h1, h2, h3, h4⟩ := vis_of C h
  refine PE.imp (pe_var h1 h2 h3 h4) fun σ H Q q => ?_
  obtain ⟨_, ρ, env, hh, R, er, _, r⟩ := q
  simp only [evE, M.opt] at r
  cases e : env[i]? with
  | none =>
    rw [e] at r
    exact r.elim
  | some o =>
    cases o with
    | none =>
      rw [e] at r
      exact r.elim
    | some d =>
      rw [e] at r
      obtain ⟨v, e1, e2⟩ := er.2 i d e
      exact ⟨v, e1, r.ret R e2⟩
theorem pe_con (C : CxOk L Γ n ev p X) {c : Const} {ce : CE} {j : Nat} {pos : Pos} (h : cConst c = some ce) (W : WX) : PE X (.Constant c j pos) (tM L p (VR L) (evE ev ce) W) := by
  cases c with
  | none =>
    cases h
    exact PE.imp pe_non fun σ H Q ⟨_, ρ, env, hh, R, er, _, r⟩ => r.ret R .non
  | bool b =>
    cases h
    exact PE.imp pe_bl fun σ H Q ⟨_, ρ, env, hh, R, er, _, r⟩ => r.ret R (.bl b)
  | int i =>
    cases h
    exact PE.imp pe_int fun σ H Q ⟨_, ρ, env, hh, R, er, _, r⟩ => r.ret R (.int i)
  | str x =>
    cases h
    exact PE.imp pe_str fun σ H Q ⟨_, ρ, env, hh, R, er, _, r⟩ => r.ret R (.str x)
  | _ => cases h
theorem pe_name (C : CxOk L Γ n ev p X) {x : Str} {ce : CE} {pos : Pos} (h : cName Γ x = some ce) (W : WX) : PE X (.Name x pos) (tM L p (VR L) (evE ev ce) W) := by
  unfold cName at h
  split at h
  · next i e =>
    cases h
    exact pe_slot C e W
  · split at h
    · next hg =>
      cases e : Γ.g.gc.lookup x with
      | none =>
        rw [e] at h
        cases h
      | some d =>
        rw [e] at h
        cases h
        obtain ⟨h1, h2, _, _⟩ := gl_of C hg
        obtain ⟨v, u, g1, g2, g3⟩ := C.gb.gc x d e
        exact PE.imp (pe_glob h1 (by rw [C.x0.mg]; exact g1) g2 h2) fun σ H Q ⟨_, ρ, env, hh, R, er, _, r⟩ => r.ret R (g3 ρ H)
    · cases h
/-- a two-place operation -/
theorem pe_bin2 (C : CxOk L Γ n ev p X) {a b : Expr} {ca cb : CE} {W : WX} (ha : PE X a (tM L p (VR L) (evE ev ca) W)) (hb : PE X b (tM L p (VR L) (evE ev cb) W)) {f : Value → Value → Sem Value} {g : D → D → M D} (ok : OpOk L f g)
    {pins : List (Addr × Obj)} {s : Shared} {σ : L2.St} {H : Hp} {Q : VK} (I : Inv X pins σ H s) (h : tM L p (VR L) (fun env => M.bind (evE ev ca env) fun x => M.bind (evE ev cb env) fun y => g x y) W σ H Q) :
    wpAny (model X.prog X.w) X.A (eval a X.env) (fun v s₁ => wpAny (model X.prog X.w) X.A (eval b X.env) (fun u s₂ => wpAny (model X.prog X.w) X.A (f v u) (EP X pins σ Q) X.xe s₂) X.xe s₁) X.xe s := by
  have pn := h.1
  refine bin ha hb I (tM_bind (P := VR L) h |> fun q => ?_) (R := fun x y H2 => ∃ ρ h d e, Rep L ρ h H2 ∧ VRel L.K ρ H2 d x ∧ VRel L.K ρ H2 e y ∧ res L (VR L) ρ H2 (g d e h) Q (fun c d H' => W c d σ H')) fun v u s2 x y H2 I2 rx ry ⟨ρ, h2, d, e, R, r1, r2, q⟩ => ?_
  · obtain ⟨_, ρ, env, h0, R, er, pa, r⟩ := q
    refine ⟨pn, ρ, env, h0, R, er, pa, r.mono fun x H1 => ?_⟩
    rintro ⟨ρ1, env1, h1, d, R1, er1, pa1, rd, r1⟩
    exact tM_next (P := VR L) (m := evE ev cb) (f := fun _ y => g d y) pn R1 er1 pa1 r1 fun ρ2 H2 h2 e y e2 R2 _ _ re r2 => ⟨ρ2, h2, d, e, R2, rd.mono e2, re, r2⟩
  · exact ok X pins s2 σ H2 x y v u Q _ ρ h2 d e C.x0 I2 rx ry R r1 r2 q

theorem bop_ok {op : Operator} {o : BOp} (h : cBop op = some o) : OpOk L (binaryOp op) (binD o) := by
  cases op <;> first
    | (cases h; exact add_ok L)
    | (cases h; exact sub_ok L)
    | (cases h; exact mul_ok L)
    | (cases h; exact fdiv_ok L)
    | (cases h; exact mod_ok L)
    | (cases h; exact pow_ok L)
    | cases h
theorem cop_ok {op : CmpOp} {o : COp} (h : cCop op = some o) : OpOk L (compareOp op) (cmpD o) := by
  cases op <;> first
    | (cases h; exact cmp_ok L _)
    | cases h
theorem pe_bop (C : CxOk L Γ n ev p X) {a b : Expr} {ca cb : CE} {W : WX} {op : Operator} {o : BOp} {pos : Pos} (h : cBop op = some o) (ha : PE X a (tM L p (VR L) (evE ev ca) W)) (hb : PE X b (tM L p (VR L) (evE ev cb) W)) :
    PE X (.BinOp a op b pos) (tM L p (VR L) (evE ev (.bin o ca cb)) W) :=
  ⟨fun pins s σ H Q I q => wpAny_BinOp (pe_bin2 C ha hb (bop_ok h) I q)⟩
/-- a comparison's answer is a truth -/
theorem cmp_bl {o : COp} {a b : D} {h h' : Hh} {d : D} (e : cmpD o a b h = .ok d h') : ∃ k, d = .bl k := by
  cases o <;> simp only [cmpD] at e <;> split at e <;> first | (cases e; exact ⟨_, rfl⟩) | cases e
theorem pe_cmpM (C : CxOk L Γ n ev p X) {a b : Expr} {ca cb : CE} {W : WX} {op : CmpOp} {o : COp} {pos : Pos} (h : cCop op = some o) (hs : behindInMarks op b = false) (ha : PE X a (tM L p (VR L) (evE ev ca) W)) (hb : PE X b (tM L p (VR L) (evE ev cb) W)) :
    PE X (.Compare a [op] [b] pos) (tM L p (VR L) (evE ev (.cmp o ca cb)) W) :=
  ⟨fun pins s σ H Q I q => wpAny_Compare1 (pe_bin2 C ha hb (cop_ok h) I q) hs⟩
/-- the truth of what is handed back -/
theorem tru_run (C : CxOk L Γ n ev p X) {pins : List (Addr × Obj)} {s : Shared} {σ : L2.St} {H : Hp} {Q : Bool → Hp → Prop} {W : Value → Option Addr → Hp → Prop} {ρ : List Addr} {h : Hh} {d : D} {x : V} {u : Value} (I : Inv X pins σ H s) (rx : L2.RelV x u) (R : Rep L ρ h H)
    (r : VRel L.K ρ H d x) (q : res L BR ρ H (tru d h) Q W) : wpAny (model X.prog X.w) X.A (truthy u) (TP X pins σ Q) X.xe s := by
  unfold tru at q
  split at q
  · next k e => exact tru_ok pins s σ H x u Q I rx ⟨k, tru_at C.x0.K R r e, q ρ H k (Ext.refl _ _) R rfl⟩
  · exact q.elim
theorem pt_plain (C : CxOk L Γ n ev p X) {e : Expr} {ce : CE} {W : WX} (he : PE X e (tM L p (VR L) (evE ev ce) W)) (hp : ∀ whole, isTrue e X.env whole = (do let v ← whole; standAt e.pos; holding [v] (truthy v))) :
    PT X e (tM L p BR (fun env => M.bind (evE ev ce env) tru) W) :=
  ⟨fun pins s σ H Q I q => isTrue_plain (thn (he.run pins s σ H _ I (tM_bind (P := VR L) q)) fun u s1 ⟨x, H1, I1, r1, ρ1, env, h1, d, R, er, pa, rd, q1⟩ => tru_run C I1 r1 R rd q1) (hp _)⟩
theorem pt_cmpM (C : CxOk L Γ n ev p X) {a b : Expr} {ca cb : CE} {W : WX} {op : CmpOp} {o : COp} {pos : Pos} (h : cCop op = some o) (hs : behindInMarks op b = false) (ha : PE X a (tM L p (VR L) (evE ev ca) W)) (hb : PE X b (tM L p (VR L) (evE ev cb) W)) :
    PT X (.Compare a [op] [b] pos) (tM L p BR (fun env => M.bind (evE ev (.cmp o ca cb) env) tru) W) := by
  refine ⟨fun pins s σ H Q I q => wpAny_isTrue_Compare1 (thn (pe_bin2 C ha hb (cop_ok h) I (tM_bind (P := VR L) (f := fun _ d => tru d) q)) fun v s1 h1 => thn h1 fun u s2 h2 => thn h2 fun c s3 hc => ?_) hs⟩
  obtain ⟨x, H3, I3, r3, ρ1, env, h1', d, R, er, pa, rd, q1⟩ := hc
  exact tru_run C I3 r3 R rd q1
theorem pe_notM (C : CxOk L Γ n ev p X) {a : Expr} {ca : CE} {W : WX} {pos : Pos} (ha : PE X a (tM L p (VR L) (evE ev ca) W)) : PE X (.UnaryOp .Not a pos) (tM L p (VR L) (evE ev (.notE ca)) W) := by
  refine PE.imp (pe_notT ha) fun σ H Q q => ?_
  obtain ⟨pn, ρ, env, h0, R, er, pa, r⟩ := tM_bind (P := VR L) q
  refine ⟨pn, ρ, env, h0, R, er, pa, r.mono fun x H1 => ?_⟩
  rintro ⟨ρ1, env1, h1, d, R1, er1, pa1, rd, r1⟩
  simp only [M.bind, tru] at r1
  split at r1
  · next k h' e =>
    split at e
    · next k' e' =>
      cases e
      exact ⟨_, tru_at C.x0.K R1 rd e', r1.ret R1 (.bl _)⟩
    · cases e
  · next e => split at e <;> cases e
  · exact r1.elim
theorem pt_notM (C : CxOk L Γ n ev p X) {a : Expr} {ca : CE} {W : WX} {pos : Pos} (ha : PT X a (tM L p BR (fun env => M.bind (evE ev ca env) tru) W)) : PT X (.UnaryOp .Not a pos) (tM L p BR (fun env => M.bind (evE ev (.notE ca) env) tru) W) := by
  refine PT.imp (pt_not ha) fun σ H Q q => ?_
  obtain ⟨pn, ρ, env, h0, R, er, pa, r⟩ := q
  refine ⟨pn, ρ, env, h0, R, er, pa, ?_⟩
  simp only [evE, M.bind] at r ⊢
  cases e : evE ev ca env h0 with
  | ok d h1 =>
    rw [e] at r
    simp only [tru] at r ⊢
    cases e2 : truD h1 d with
    | none =>
      rw [e2] at r
      exact r
    | some k =>
      rw [e2] at r
      simp only [M.pure, truD] at r
      intro ρ' H' b x R' pb
      cases pb
      exact r ρ' H' _ x R' rfl
  | exc x h1 =>
    rw [e] at r
    exact r
  | bad =>
    rw [e] at r
    exact r
theorem pe_andM (C : CxOk L Γ n ev p X) {a b : Expr} {es : List Expr} {ca cb : CE} {W : WX} {pos : Pos} (ha : PE X a (tM L p (VR L) (evE ev ca) W)) (hb : PE X (.BoolOp .And (b :: es) pos) (tM L p (VR L) (evE ev cb) W)) :
    PE X (.BoolOp .And (a :: b :: es) pos) (tM L p (VR L) (evE ev (.andE ca cb)) W) := by
  refine PE.imp (pe_andT ha hb) fun σ H Q q => ?_
  obtain ⟨pn, ρ, env, h0, R, er, pa, r⟩ := tM_bind (P := VR L) q
  refine ⟨pn, ρ, env, h0, R, er, pa, r.mono fun x H1 => ?_⟩
  rintro ⟨ρ1, env1, h1, d, R1, er1, pa1, rd, r1⟩
  simp only [M.bind, tru] at r1
  cases e2 : truD h1 d with
  | none =>
    rw [e2] at r1
    exact r1.elim
  | some k =>
    rw [e2] at r1
    refine ⟨k, tru_at C.x0.K R1 rd e2, ?_⟩
    cases k with
    | true => exact iteT ⟨pn, ρ1, env1, h1, R1, er1, pa1, r1⟩
    | false => exact iteF (r1.ret R1 rd)
theorem pe_orM (C : CxOk L Γ n ev p X) {a b : Expr} {es : List Expr} {ca cb : CE} {W : WX} {pos : Pos} (ha : PE X a (tM L p (VR L) (evE ev ca) W)) (hb : PE X (.BoolOp .Or (b :: es) pos) (tM L p (VR L) (evE ev cb) W)) :
    PE X (.BoolOp .Or (a :: b :: es) pos) (tM L p (VR L) (evE ev (.orE ca cb)) W) := by
  refine PE.imp (pe_orT ha hb) fun σ H Q q => ?_
  obtain ⟨pn, ρ, env, h0, R, er, pa, r⟩ := tM_bind (P := VR L) q
  refine ⟨pn, ρ, env, h0, R, er, pa, r.mono fun x H1 => ?_⟩
  rintro ⟨ρ1, env1, h1, d, R1, er1, pa1, rd, r1⟩
  simp only [M.bind, tru] at r1
  cases e2 : truD h1 d with
  | none =>
    rw [e2] at r1
    exact r1.elim
  | some k =>
    rw [e2] at r1
    refine ⟨k, tru_at C.x0.K R1 rd e2, ?_⟩
    cases k with
    | false => exact iteF ⟨pn, ρ1, env1, h1, R1, er1, pa1, r1⟩
    | true => exact iteT (r1.ret R1 rd)
/-- the test of a first part, then the rest -/
theorem pt_andM (C : CxOk L Γ n ev p X) {a b : Expr} {es : List Expr} {ca cb : CE} {W : WX} {pos : Pos} (ha : PT X a (tM L p BR (fun env => M.bind (evE ev ca env) tru) W)) (hb : PT X (.BoolOp .And (b :: es) pos) (tM L p BR (fun env => M.bind (evE ev cb env) tru) W)) :
    PT X (.BoolOp .And (a :: b :: es) pos) (tM L p BR (fun env => M.bind (evE ev (.andE ca cb) env) tru) W) := by
  refine PT.imp (PW.pt (pw_and ha ⟨fun _ => hb.run⟩)) fun σ H Q q => ?_
  obtain ⟨pn, ρ, env, h0, R, er, pa, r⟩ := q
  refine ⟨pn, ρ, env, h0, R, er, pa, ?_⟩
  simp only [evE, M.bind] at r ⊢
  cases e : evE ev ca env h0 with
  | ok d h1 =>
    rw [e] at r
    simp only [tru] at r ⊢
    cases e2 : truD h1 d with
    | none =>
      rw [e2] at r
      exact r
    | some k =>
      rw [e2] at r
      intro ρ' H' b x R' pb
      cases pb
      cases k with
      | true => exact iteT ⟨pn, ρ', env, h1, R', er.mono x, pa.trans x, res.later x r⟩
      | false =>
        simp only [M.pure, e2] at r
        exact iteF (r ρ' H' _ x R' rfl)
  | exc x h1 =>
    rw [e] at r
    exact r
  | bad =>
    rw [e] at r
    exact r
theorem pt_orM (C : CxOk L Γ n ev p X) {a b : Expr} {es : List Expr} {ca cb : CE} {W : WX} {pos : Pos} (ha : PT X a (tM L p BR (fun env => M.bind (evE ev ca env) tru) W)) (hb : PT X (.BoolOp .Or (b :: es) pos) (tM L p BR (fun env => M.bind (evE ev cb env) tru) W)) :
    PT X (.BoolOp .Or (a :: b :: es) pos) (tM L p BR (fun env => M.bind (evE ev (.orE ca cb) env) tru) W) := by
  refine PT.imp (PW.pt (pw_or ha ⟨fun _ => hb.run⟩)) fun σ H Q q => ?_
  obtain ⟨pn, ρ, env, h0, R, er, pa, r⟩ := q
  refine ⟨pn, ρ, env, h0, R, er, pa, ?_⟩
  simp only [evE, M.bind] at r ⊢
  cases e : evE ev ca env h0 with
  | ok d h1 =>
    rw [e] at r
    simp only [tru] at r ⊢
    cases e2 : truD h1 d with
    | none =>
      rw [e2] at r
      exact r
    | some k =>
      rw [e2] at r
      intro ρ' H' b x R' pb
      cases pb
      cases k with
      | false => exact iteF ⟨pn, ρ', env, h1, R', er.mono x, pa.trans x, res.later x r⟩
      | true =>
        simp only [M.pure, e2] at r
        exact iteT (r ρ' H' _ x R' rfl)
  | exc x h1 =>
    rw [e] at r
    exact r
  | bad =>
    rw [e] at r
    exact r
theorem pe_ifM (C : CxOk L Γ n ev p X) {t a b : Expr} {ct ca cb : CE} {W : WX} {pos : Pos} (ht : PT X t (tM L p BR (fun env => M.bind (evE ev ct env) tru) W)) (ha : PE X a (tM L p (VR L) (evE ev ca) W)) (hb : PE X b (tM L p (VR L) (evE ev cb) W)) :
    PE X (.IfExp t a b pos) (tM L p (VR L) (evE ev (.ife ct ca cb)) W) := by
  refine PE.imp (pe_ifExp ht ha hb) fun σ H Q q => ?_
  have q : tM L p (VR L) (fun env => M.bind (M.bind (evE ev ct env) tru) fun k => match k with | true => evE ev ca env | false => evE ev cb env) W σ H Q := by
    obtain ⟨pn, ρ, env, h0, R, er, pa, r⟩ := q
    refine ⟨pn, ρ, env, h0, R, er, pa, ?_⟩
    simp only [evE, M.bind] at r ⊢
    cases e : evE ev ct env h0 with
    | ok d h1 =>
      rw [e] at r
      exact r
    | exc x h1 =>
      rw [e] at r
      exact r
    | bad =>
      rw [e] at r
      exact r
  obtain ⟨pn, ρ, env, h0, R, er, pa, r⟩ := tM_bind (P := BR) q
  refine ⟨pn, ρ, env, h0, R, er, pa, r.mono fun k H1 => ?_⟩
  rintro ⟨ρ1, env1, h1, d, R1, er1, pa1, rd, r1⟩
  cases rd
  cases k with
  | true => exact iteT ⟨pn, ρ1, env1, h1, R1, er1, pa1, r1⟩
  | false => exact iteF ⟨pn, ρ1, env1, h1, R1, er1, pa1, r1⟩
theorem pt_ifM (C : CxOk L Γ n ev p X) {t a b : Expr} {ct ca cb : CE} {W : WX} {pos : Pos} (ht : PT X t (tM L p BR (fun env => M.bind (evE ev ct env) tru) W)) (ha : PT X a (tM L p BR (fun env => M.bind (evE ev ca env) tru) W)) (hb : PT X b (tM L p BR (fun env => M.bind (evE ev cb env) tru) W)) :
    PT X (.IfExp t a b pos) (tM L p BR (fun env => M.bind (evE ev (.ife ct ca cb) env) tru) W) := by
  refine ⟨fun pins s σ H Q I q => ?_⟩
  have q : tM L p BR (fun env => M.bind (M.bind (evE ev ct env) tru) fun k => match k with | true => M.bind (evE ev ca env) tru | false => M.bind (evE ev cb env) tru) W σ H Q := by
    obtain ⟨pn, ρ, env, h0, R, er, pa, r⟩ := q
    refine ⟨pn, ρ, env, h0, R, er, pa, ?_⟩
    simp only [evE, M.bind] at r ⊢
    cases e : evE ev ct env h0 with
    | ok d h1 =>
      rw [e] at r
      simp only [tru] at r ⊢
      cases e2 : truD h1 d with
      | none =>
        rw [e2] at r
        exact r
      | some k =>
        rw [e2] at r
        cases k <;> exact r
    | exc x h1 =>
      rw [e] at r
      exact r
    | bad =>
      rw [e] at r
      exact r
  show wpAny _ _ (do if ← isTrue t X.env (eval t X.env) then isTrue a X.env (eval a X.env) else isTrue b X.env (eval b X.env)) _ _ s
  refine wpAny_bind (thn (ht.run pins s σ H _ I (tM_bind (P := BR) q)) fun k s1 ⟨H1, I1, ρ1, env1, h1, d, R1, er1, pa1, rd, r1⟩ => ?_)
  cases rd
  cases k with
  | true =>
    rw [if_pos rfl]
    exact ha.run pins s1 σ H1 Q I1 ⟨q.1, ρ1, env1, h1, R1, er1, pa1, r1⟩
  | false =>
    rw [if_neg Bool.false_ne_true]
    exact hb.run pins s1 σ H1 Q I1 ⟨q.1, ρ1, env1, h1, R1, er1, pa1, r1⟩
end
end MX
set_option maxHeartbeats 4000000
namespace MX
open PySem PySem.Spec PyProof.Rows L2
section
variable {L : Lk} {Γ : Cn} {n : Nat} {ev : Ev} {p : Pn} {X : Cx}

/-- a two-place operation as a reading -/
def rM (L : Lk) (g : D → D → M D) : R2 := fun x y H Q => ∃ ρ h d e W, Rep L ρ h H ∧ VRel L.K ρ H d x ∧ VRel L.K ρ H e y ∧ res L (VR L) ρ H (g d e h) Q W
theorem OpOk.opR {f : Value → Value → Sem Value} {g : D → D → M D} (ok : OpOk L f g) (h0 : X0 L X) : OpR X f (rM L g) := fun pins s σ H x y v u Q I rx ry ⟨ρ, h, d, e, W, R, rd, re, q⟩ => ok X pins s σ H x y v u Q W ρ h d e h0 I rx ry R rd re q
theorem chain_read (C : CxOk L Γ n ev p X) {ca cb cc : CE} {W : WX} {o o' : COp} {σ : L2.St} {H : Hp} {Q : VK} (q : tM L p (VR L) (evE ev (.chain o o' ca cb cc)) W σ H Q) :
    tChain (rM L (cmpD o)) (rM L (cmpD o')) (tM L p (VR L) (evE ev ca) W) (tM L p (VR L) (evE ev cb) W) (tM L p (VR L) (evE ev cc) W) σ H Q := by
  have pn := q.1
  obtain ⟨_, ρ, env, h0, R, er, pa, r⟩ := q
  simp only [evE] at r
  refine tM_next (P := VR L) (m := evE ev ca) (f := fun env x => M.bind (evE ev cb env) fun y => M.bind (cmpD o x y) fun r => match r with
    | .bl true => M.bind (evE ev cc env) fun z => cmpD o' y z
    | .bl false => M.pure (.bl false)
    | _ => M.bad) pn R er pa r fun ρ1 H1 h1 d1 v1 e1 R1 er1 pa1 rd1 r1 => ?_
  refine tM_next (P := VR L) (m := evE ev cb) (f := fun env y => M.bind (cmpD o d1 y) fun r => match r with
    | .bl true => M.bind (evE ev cc env) fun z => cmpD o' y z
    | .bl false => M.pure (.bl false)
    | _ => M.bad) pn R1 er1 pa1 r1 fun ρ2 H2 h2 d2 v2 e2 R2 er2 pa2 rd2 r2 => ?_
  refine ⟨ρ2, h2, d1, d2, _, R2, rd1.mono e2, rd2, (res.bind (P := VR L) r2).mono fun z H3 => ?_⟩
  rintro ⟨ρ3, h3, d3, e3, R3, rd3, r3⟩
  split at r3
  · cases rd3
    refine ⟨true, rfl, iteT ?_⟩
    refine tM_next (P := VR L) (m := evE ev cc) (f := fun env z => cmpD o' d2 z) pn R3 (er2.mono e3) (pa2.trans e3) r3 fun ρ4 H4 h4 d4 v4 e4 R4 er4 pa4 rd4 r4 => ?_
    exact ⟨ρ4, h4, d2, d4, _, R4, (rd2.mono e3).mono e4, rd4, r4⟩
  · cases rd3
    exact ⟨false, rfl, iteF (r3.ret R3 (.bl false))⟩
  · exact r3.elim
theorem pe_chainM (C : CxOk L Γ n ev p X) {a b c : Expr} {ca cb cc : CE} {W : WX} {op op' : CmpOp} {o o' : COp} {pos : Pos} (h : cCop op = some o) (h' : cCop op' = some o') (hs : behindInMarks op' c = false)
    (ha : PE X a (tM L p (VR L) (evE ev ca) W)) (hb : PE X b (tM L p (VR L) (evE ev cb) W)) (hc : PE X c (tM L p (VR L) (evE ev cc) W)) : PE X (.Compare a [op, op'] [b, c] pos) (tM L p (VR L) (evE ev (.chain o o' ca cb cc)) W) :=
  PE.imp (pe_chain ((cop_ok h).opR C.x0) ((cop_ok h').opR C.x0) ha hb hc (by show behindInMarks op' c = false; exact hs)) fun σ H Q q => chain_read C q
/-- a chain as a test, by its value -/
theorem pt_chainM (C : CxOk L Γ n ev p X) {a b c : Expr} {ca cb cc : CE} {W : WX} {op op' : CmpOp} {o o' : COp} {pos : Pos} (h : cCop op = some o) (h' : cCop op' = some o') (hs : behindInMarks op' c = false)
    (ha : PE X a (tM L p (VR L) (evE ev ca) W)) (hb : PE X b (tM L p (VR L) (evE ev cb) W)) (hc : PE X c (tM L p (VR L) (evE ev cc) W)) : PT X (.Compare a [op, op'] [b, c] pos) (tM L p BR (fun env => M.bind (evE ev (.chain o o' ca cb cc) env) tru) W) := by
  refine PT.imp (pt_chain ((cop_ok h).opR C.x0) ((cop_ok h').opR C.x0) ha hb hc (by show behindInMarks op' c = false; exact hs)) fun σ H Q q => ?_
  refine chain_read C ?_
  obtain ⟨pn, ρ, env, h0, R, er, pa, r⟩ := tM_bind (P := VR L) (f := fun _ d => tru d) q
  refine ⟨pn, ρ, env, h0, R, er, pa, ?_⟩
  simp only [evE] at r ⊢
  -- the answer is a truth
  have key : ∀ d h', (evE ev (.chain o o' ca cb cc) env h0) = .ok d h' → ∃ k, d = .bl k := fun d h' e => by
    simp only [evE, M.bind] at e
    cases e1 : evE ev ca env h0 with
    | exc x h1 =>
      rw [e1] at e
      cases e
    | bad =>
      rw [e1] at e
      cases e
    | ok d1 h1 =>
      rw [e1] at e
      simp only at e
      cases e2 : evE ev cb env h1 with
      | exc x h1 =>
        rw [e2] at e
        cases e
      | bad =>
        rw [e2] at e
        cases e
      | ok d2 h2 =>
        rw [e2] at e
        simp only at e
        cases e3 : cmpD o d1 d2 h2 with
        | exc x h1 =>
          rw [e3] at e
          cases e
        | bad =>
          rw [e3] at e
          cases e
        | ok d3 h3 =>
          rw [e3] at e
          obtain ⟨k, rfl⟩ := cmp_bl e3
          cases k with
          | false =>
            cases e
            exact ⟨_, rfl⟩
          | true =>
            simp only [M.bind] at e
            cases e4 : evE ev cc env h3 with
            | exc x h1 =>
              rw [e4] at e
              cases e
            | bad =>
              rw [e4] at e
              cases e
            | ok d4 h4 =>
              rw [e4] at e
              exact cmp_bl e
  have r' : res L (VR L) ρ H (evE ev (.chain o o' ca cb cc) env h0) (fun b H1 => ∃ ρ1 env h1 a, Rep L ρ1 h1 H1 ∧ ERel L.K ρ1 H1 env σ ∧ Past p ρ1 H1 ∧ VR L ρ1 H1 a b ∧ res L BR ρ1 H1 (tru a h1) Q (fun c d H' => W c d σ H')) (fun c d H' => W c d σ H') := by
    simp only [evE]
    exact r
  have goal : res L (VR L) ρ H (evE ev (.chain o o' ca cb cc) env h0) (fun z H3 => ∃ k, z = V.bl k ∧ Q k H3) (fun c d H' => W c d σ H') := by
    cases e : evE ev (.chain o o' ca cb cc) env h0 with
    | ok d h1 =>
      rw [e] at r'
      obtain ⟨k, rfl⟩ := key d h1 e
      intro ρ' H' b x R' rd
      obtain ⟨ρ1, env1, h2, a2, R2, er2, pa2, rd2, q2⟩ := r' ρ' H' b x R' rd
      cases rd
      cases rd2
      exact ⟨k, rfl, q2 ρ1 H' k (Ext.refl _ _) R2 rfl⟩
    | exc x h1 =>
      rw [e] at r'
      exact r'
    | bad =>
      rw [e] at r'
      exact r'
  simp only [evE] at goal
  exact goal
theorem pe_isNM (C : CxOk L Γ n ev p X) {a : Expr} {ca : CE} {W : WX} {j : Nat} {q1 pos : Pos} (ha : PE X a (tM L p (VR L) (evE ev ca) W)) : PE X (.Compare a [.Is] [.Constant .none j q1] pos) (tM L p (VR L) (evE ev (.isN ca)) W) := by
  refine PE.imp (pe_cmp (pc_isN ha)) fun σ H Q q => ?_
  obtain ⟨pn, ρ, env, h0, R, er, pa, r⟩ := tM_bind (P := VR L) q
  refine ⟨pn, ρ, env, h0, R, er, pa, r.mono fun x H1 => ?_⟩
  rintro ⟨ρ1, env1, h1, d, R1, er1, pa1, rd, r1⟩
  cases rd <;> exact r1.ret R1 (.bl _)
theorem pe_notNM (C : CxOk L Γ n ev p X) {a : Expr} {ca : CE} {W : WX} {j : Nat} {q1 pos : Pos} (ha : PE X a (tM L p (VR L) (evE ev ca) W)) : PE X (.Compare a [.IsNot] [.Constant .none j q1] pos) (tM L p (VR L) (evE ev (.notN ca)) W) := by
  refine PE.imp (pe_cmp (pc_notN ha)) fun σ H Q q => ?_
  obtain ⟨pn, ρ, env, h0, R, er, pa, r⟩ := tM_bind (P := VR L) q
  refine ⟨pn, ρ, env, h0, R, er, pa, r.mono fun x H1 => ?_⟩
  rintro ⟨ρ1, env1, h1, d, R1, er1, pa1, rd, r1⟩
  cases rd <;> exact r1.ret R1 (.bl _)
theorem pt_isNM (C : CxOk L Γ n ev p X) {a : Expr} {ca : CE} {W : WX} {j : Nat} {q1 pos : Pos} (ha : PE X a (tM L p (VR L) (evE ev ca) W)) : PT X (.Compare a [.Is] [.Constant .none j q1] pos) (tM L p BR (fun env => M.bind (evE ev (.isN ca) env) tru) W) := by
  refine PT.imp (pt_cmp (pc_isN ha)) fun σ H Q q => ?_
  have q : tM L p BR (fun env => M.bind (evE ev ca env) fun x => M.pure (match x with | .non => true | _ => false)) W σ H Q := by
    obtain ⟨pn, ρ, env, h0, R, er, pa, r⟩ := q
    refine ⟨pn, ρ, env, h0, R, er, pa, ?_⟩
    simp only [evE, M.bind] at r ⊢
    cases e : evE ev ca env h0 with
    | ok d h1 =>
      rw [e] at r
      cases d <;> exact r
    | exc x h1 =>
      rw [e] at r
      exact r
    | bad =>
      rw [e] at r
      exact r
  obtain ⟨pn, ρ, env, h0, R, er, pa, r⟩ := tM_bind (P := VR L) q
  refine ⟨pn, ρ, env, h0, R, er, pa, r.mono fun x H1 => ?_⟩
  rintro ⟨ρ1, env1, h1, d, R1, er1, pa1, rd, r1⟩
  cases rd <;> exact ⟨_, rfl, r1.ret R1 rfl⟩
theorem pt_notNM (C : CxOk L Γ n ev p X) {a : Expr} {ca : CE} {W : WX} {j : Nat} {q1 pos : Pos} (ha : PE X a (tM L p (VR L) (evE ev ca) W)) : PT X (.Compare a [.IsNot] [.Constant .none j q1] pos) (tM L p BR (fun env => M.bind (evE ev (.notN ca) env) tru) W) := by
  refine PT.imp (pt_cmp (pc_notN ha)) fun σ H Q q => ?_
  have q : tM L p BR (fun env => M.bind (evE ev ca env) fun x => M.pure (match x with | .non => false | _ => true)) W σ H Q := by
    obtain ⟨pn, ρ, env, h0, R, er, pa, r⟩ := q
    refine ⟨pn, ρ, env, h0, R, er, pa, ?_⟩
    simp only [evE, M.bind] at r ⊢
    cases e : evE ev ca env h0 with
    | ok d h1 =>
      rw [e] at r
      cases d <;> exact r
    | exc x h1 =>
      rw [e] at r
      exact r
    | bad =>
      rw [e] at r
      exact r
  obtain ⟨pn, ρ, env, h0, R, er, pa, r⟩ := tM_bind (P := VR L) q
  refine ⟨pn, ρ, env, h0, R, er, pa, r.mono fun x H1 => ?_⟩
  rintro ⟨ρ1, env1, h1, d, R1, er1, pa1, rd, r1⟩
  cases rd <;> exact ⟨_, rfl, r1.ret R1 rfl⟩
end
end MX
set_option maxHeartbeats 4000000
namespace MX
open PySem PySem.Spec PyProof.Rows L2
/-! ### t[::-1] of a tuple -/
section
variable {prog : Program} {w : World} {A : Around} {E : Value → Shared → Prop} {s : Shared}
theorem fm_map {α β : Type} {f : α → Option β} {g : α → β} : ∀ {l : List α}, (∀ m ∈ l, f m = some (g m)) → l.filterMap f = l.map g
  | [], _ => rfl
  | a :: l, h => by
    rw [List.filterMap_cons_some (h a List.mem_cons_self), List.map_cons, fm_map fun m hm => h m (List.mem_cons_of_mem _ hm)]
theorem pick_rev (xs : Array Value) : ((List.range xs.size).filterMap fun (m : Nat) => xs[((xs.size : Int) - 1 + (m : Int) * (-1)).toNat]?) = xs.toList.reverse := by
  apply List.ext_getElem?
  intro i
  have e : ∀ m, m < xs.size → xs[((xs.size : Int) - 1 + (m : Int) * (-1)).toNat]? = some (xs[xs.size - 1 - m]!) := fun m h => by
    have z : ((xs.size : Int) - 1 + (m : Int) * (-1)).toNat = xs.size - 1 - m := by omega
    rw [z, Array.getElem?_eq_getElem (by omega), getElem!_pos xs _ (by omega)]
  have f : ((List.range xs.size).filterMap fun (m : Nat) => xs[((xs.size : Int) - 1 + (m : Int) * (-1)).toNat]?) = (List.range xs.size).map fun m => xs[xs.size - 1 - m]! := by
    exact fm_map fun m hm => e m (List.mem_range.mp hm)
  rw [f, List.getElem?_map]
  by_cases h : i < xs.size
  · rw [List.getElem?_range h, List.getElem?_reverse (by simpa using h)]
    simp only [Option.map_some, Array.length_toList]
    rw [getElem!_pos xs _ (by omega), Array.getElem?_toList, Array.getElem?_eq_getElem (by omega)]
  · rw [List.getElem?_eq_none (by simpa using h), List.getElem?_eq_none (by simpa using h)]
    rfl
theorem sliceApplied_rev {sl : Addr} {vl vu vs : Value} {n : Nat} {Q : Int × Int × Nat → Shared → Prop} (hs : s.heap.IsSliceOf sl vl vu vs) (pl : IsPart vl none) (pu : IsPart vu none) (ps : IsPart vs (some (-1)))
    (h : Q ((n : Int) - 1, -1, n) s) : wpAny (model prog w) A (Builtin.Slice.sliceApplied (.ref sl) (pure (n : Int))) Q E s := by
  obtain ⟨os, hos, hcs, hds⟩ := id hs
  unfold Builtin.Slice.sliceApplied Builtin.Slice.sliceFields
  refine wpAny_bind (wpAny_bind (wpAny_field hos hds (x := vl) rfl (wpAny_bind (wpAny_field hos hds (x := vu) rfl (wpAny_bind (wpAny_field hos hds (x := vs) rfl (wpAny_pure ?_)))))))
  refine wpAny_bind (HT.slicePart_ ps ?_)
  show wpAny _ _ (if ((-1 : Int) == 0) = true then _ else _) _ _ s
  rw [if_neg (by decide)]
  refine wpAny_bind (HT.slicePart_ pl (wpAny_bind (HT.slicePart_ pu (wpAny_bind (wpAny_pure ?_)))))
  have e : Builtin.Slice.sliceAdjust none none (-1) (n : Int) = ((n : Int) - 1, -1) := rfl
  have e2 : Builtin.Slice.slicePlaces ((n : Int) - 1) (-1) (-1) = n := by
    unfold Builtin.Slice.slicePlaces
    have h1 : ¬ ((-1 : Int) > 0) := by omega
    simp only [h1, if_false, Int.neg_neg, Int.ediv_one]
    split <;> omega
  show wpAny _ _ (match Builtin.Slice.sliceAdjust none none (-1) (n : Int) with | (lo, hi) => pure (lo, (-1 : Int), Builtin.Slice.slicePlaces lo hi (-1))) _ _ s
  rw [e]
  show wpAny _ _ (pure ((n : Int) - 1, (-1 : Int), Builtin.Slice.slicePlaces ((n : Int) - 1) (-1) (-1))) _ _ s
  rw [e2]
  exact wpAny_pure h
theorem getItem_tuple_rev {t sl : Addr} {items : Array Value} {vl vu vs : Value} {Q : Value → Shared → Prop} (ht : IsTup s.heap t items) (hs : s.heap.IsSliceOf sl vl vu vs) (pl : IsPart vl none) (pu : IsPart vu none) (ps : IsPart vs (some (-1)))
    (h : Q (.ref s.heap.objs.size) { s with heap := s.heap.push { cls := .type "tuple", data := .seq (items.toList.reverse).toArray } })
    (hsz : items.size ≤ sizeLine) : wpAny (model prog w) A (getItem (.ref t) (.ref sl)) Q E s := by
  have htake : sizeOk (.seq (items.toList.reverse).toArray) := by
    show (items.toList.reverse).toArray.size ≤ sizeLine
    rw [List.size_toArray, List.length_reverse, Array.length_toList]
    exact hsz
  obtain ⟨os, hos, hcs, hds⟩ := id hs
  have hTs : s.TypeIs (.ref sl) "slice" := ⟨os, hos, hcs⟩
  unfold getItem
  try with_reducible refine wpAny_holding ?_
  first | refine wpAny_bind (wpAny_pure ?_) | skip
  refine wpAny_bind (wpAny_sequenceKey ht.typeIs (by decide) ?_)
  refine wpAny_bind (wpAny_callSpecial?_slot (name := Str.ofString "__getitem__") ht.typeIs PyProof.Rows.slot_tuple_getitem
    (wpAny_call_entry PyProof.Rows.slot_tuple_getitem ht.typeIs entry_tuple_getitem ?_ (args_tuple_getitem _ _)))
  show wpAny _ _ (Builtin.Tuple.tupleItemsOf (.ref t) >>= _) _ _ s
  refine wpAny_bind (tupleItemsOf_ ht ?_)
  refine wpAny_bind (wpAny_typeOf hTs ?_)
  rw [if_pos (by decide)]
  refine wpAny_bind (sliceApplied_rev hs pl pu ps ?_)
  have hno : ¬ (((items.size : Int) - 1 == 0 && (-1 : Int) == 1 && items.size == items.size) = true) := by
    intro q
    rw [Bool.and_eq_true, Bool.and_eq_true] at q
    exact absurd q.1.2 (by decide)
  show wpAny _ _ (if ((items.size : Int) - 1 == 0 && (-1 : Int) == 1 && items.size == items.size) = true then _ else _) _ _ s
  rw [if_neg hno, pick_rev]
  first
    | exact wpAny_bind (m := Builtin.Tuple.tupleExact _) (wpAny_newObj_type (wpAny_pure ⟨_, rfl, wpAny_pure h⟩) htake)
    | exact wpAny_bind (m := Builtin.Tuple.tupleExact _) (wpAny_newObj_type (wpAny_bind (wpAny_pure (wpAny_pure ⟨_, rfl, wpAny_pure h⟩))) htake)
    | exact wpAny_bind (wpAny_bind (m := Builtin.Tuple.tupleExact _) (wpAny_newObj_type (wpAny_pure (wpAny_pure ⟨_, rfl, wpAny_pure h⟩)) htake))
    | exact wpAny_bind (wpAny_bind (m := Builtin.Tuple.tupleExact _) (wpAny_newObj_type (wpAny_pure ⟨_, rfl, wpAny_pure h⟩) htake))
end
/-- xs[::-1] of a tuple -/
def tRevT (K : PySem.W.Frag) (te : TE) : TE := fun σ H Q => te σ H fun x H1 => ∃ a xs, x = .ref a ∧ SqT K H1 a xs ∧ ∀ p, H1 p = none → Q (.ref p) (upd H1 p (.tup xs.reverse))
theorem pe_revT {X : Cx} {e : Expr} {te : TE} {k : Nat} {p1 p2 p3 pos : Pos} (he : PE X e te) : PE X (.Subscript e (.Slice none none (some (.UnaryOp .USub (.Constant (.int 1) k p1) p2)) p3) pos) (tRevT X.K te) := by
  refine ⟨fun pins s σ H Q I h => ?_⟩
  refine Subscript_ (thn (he.run pins s σ H _ I h) fun v s1 ⟨x, H1, I1, r1, q1⟩ => ?_)
  obtain ⟨a, xs, ex, hx, q⟩ := q1
  subst ex
  cases r1
  have hst : PO X (some (.UnaryOp .USub (.Constant (.int 1) k p1) p2)) (tPart (tUn (rU fun i => .int (-i)) (tC (.int 1)))) := po_some (pe_un un_neg pe_int)
  refine wpAny_Slice (thn (po_none.run pins s1 σ H1 (fun o H2 => o = none ∧ H2 = H1) I1 ⟨rfl, rfl⟩) fun vl s2 ⟨l, H2, I2, pl, el, e2⟩ => ?_)
  subst el e2
  refine thn (po_none.run pins s2 σ H2 (fun o H3 => o = none ∧ H3 = H2) I2 ⟨rfl, rfl⟩) fun vu s3 ⟨u, H3, I3, pu, eu, e3⟩ => ?_
  subst eu e3
  refine thn (hst.run pins s3 σ H3 (fun o H4 => o = some (-1) ∧ H4 = H3) I3 ⟨1, rfl, -1, rfl, rfl, rfl⟩) fun vs s4 ⟨o, H4, I4, ps, eo, e4⟩ => ?_
  subst eo e4
  have I5 : Inv X pins σ H4 { s4 with heap := s4.heap.push { cls := .type "slice", data := .fields #[vl, vu, vs] } } := I4.kept (t' := s4.toks) fun b ob q => Heap.get?_push_of_some _ q
  obtain ⟨its, r, ht, hz⟩ := I5.tuple hx
  have hlen := r.length
  show wpAny (model X.prog X.w) X.A (subscriptTail e (.Slice none none (some (.UnaryOp .USub (.Constant (.int 1) k p1) p2)) p3) (.ref a) (.ref s4.heap.objs.size)) (EP X pins σ Q) X.xe { s4 with heap := s4.heap.push { cls := .type "slice", data := .fields #[vl, vu, vs] } }
  refine tail_any (ops := [.ref a, .ref s4.heap.objs.size]) ht.typeIs (PyProof.Rows.slot_tuple_getitem.lookup) ?_ (by with_unfolding_all rfl)
  refine getItem_tuple_rev ht (Heap.IsSliceOf.new _ vl vu vs) pl pu ps ?_ (by rw [List.size_toArray]; omega)
  have e6 : its.toArray.toList.reverse = its.reverse := by simp
  rw [e6]
  refine ⟨.ref _, _, I5.laid (t' := s4.toks) (o := .tup xs.reverse) (fun b ob q => Heap.get?_push_of_some _ q) (Nat.le_refl _) ?_, rfl, q _ (I5.hok.fresh (Nat.le_refl _))⟩
  exact ⟨by rw [List.length_reverse]; exact hz, _, r.reverse, ⟨_, Heap.get?_push_size _ rfl, rfl, _, rfl⟩⟩
end MX
set_option maxHeartbeats 4000000
namespace MX
open PySem PySem.Spec PyProof.Rows L2
section
variable {L : Lk} {Γ : Cn} {n : Nat} {ev : Ev} {p : Pn} {X : Cx}

/-! ### what is compiled carries no star -/
theorem star_of {k : Nat} {Γ : Cn} {e : Expr} {ce : CE} (h : cE k Γ e = some ce) (es : List Expr) (env : PySem.Env) : starEach (e :: es) env = (false, eval e env) :: starEach es env := by
  cases k with
  | zero => cases h
  | succ k => cases e <;> first | rfl | (simp only [cE] at h; cases h)
theorem cL_cons {f : Expr → Option CE} {e : Expr} {es : List Expr} {r : CEs} (h : cL f (e :: es) = some r) : ∃ a b, f e = some a ∧ cL f es = some b ∧ r = .cons a b := by
  unfold cL at h
  cases e1 : f e with
  | none =>
    rw [e1] at h
    cases h
  | some a =>
    cases e2 : cL f es with
    | none =>
      rw [e1, e2] at h
      cases h
    | some b =>
      rw [e1, e2] at h
      cases h
      exact ⟨a, b, rfl, rfl, rfl⟩
theorem plain_of {k : Nat} {Γ : Cn} (pos : Pos) (env : PySem.Env) : ∀ {es : List Expr} {r : CEs}, cL (cE k Γ) es = some r → (backTo pos (starEach es env)).any (·.1) = false
  | [], _, _ => rfl
  | e :: es, r, h => by
    obtain ⟨a, b, h1, h2, _⟩ := cL_cons h
    rw [star_of h1]
    show (false || (backTo pos (starEach es env)).any (·.1)) = false
    rw [plain_of pos env h2]
    rfl
theorem plain_all {k : Nat} {Γ : Cn} (pos : Pos) (env : PySem.Env) : ∀ {es : List Expr} {r : CEs}, cL (cE k Γ) es = some r → (backTo pos (starEach es env)).all (fun x => !x.1) = true
  | [], _, _ => rfl
  | e :: es, r, h => by
    obtain ⟨a, b, h1, h2, _⟩ := cL_cons h
    rw [star_of h1]
    show (true && (backTo pos (starEach es env)).all (fun x => !x.1)) = true
    rw [plain_all pos env h2]
    rfl
/-- argument lists -/
theorem pa_list {k : Nat} {W : WX} (ih : ∀ e ce, cE k Γ e = some ce → PE X e (tM L p (VR L) (evE ev ce) W)) : ∀ {es : List Expr} {r : CEs}, cL (cE k Γ) es = some r → PA X es (tM L p (VRs L) (evEs ev r) W)
  | [], r, h => by
    cases h
    exact PA.imp pa_nil fun σ H Q ⟨_, ρ, env, hh, R, er, _, r⟩ => r.ret R .nil
  | e :: es, r, h => by
    obtain ⟨a, b, h1, h2, rfl⟩ := cL_cons h
    refine PA.imp (pa_cons (ih e a h1) (pa_list ih h2) (star_of h1 es _)) fun σ H Q q => ?_
    have pn := q.1
    obtain ⟨_, ρ, env, h0, R, er, pa, r⟩ := q
    simp only [evEs] at r
    refine tM_next (P := VR L) (m := evE ev a) (f := fun env x => M.bind (evEs ev b env) fun xs => M.pure (x :: xs)) pn R er pa r fun ρ1 H1 h1 d v e1 R1 er1 pa1 rd r1 => ?_
    refine tM_next (P := VRs L) (m := evEs ev b) (f := fun _ xs => M.pure (d :: xs)) pn R1 er1 pa1 r1 fun ρ2 H2 h2 ds vs e2 R2 er2 pa2 rds r2 => ?_
    exact r2.ret R2 (.cons (rd.mono e2) rds)
theorem pe_tupM {es : List Expr} {ces : CEs} {W : WX} {j : Nat} {pos : Pos} (ha : PA X es (tM L p (VRs L) (evEs ev ces) W)) : PE X (.Tuple es j pos) (tM L p (VR L) (evE ev (.tup ces)) W) := by
  refine PE.imp (pe_tup ha) fun σ H Q q => ?_
  obtain ⟨pn, ρ, env, h0, R, er, pa, r⟩ := tM_bind (P := VRs L) q
  refine ⟨pn, ρ, env, h0, R, er, pa, r.mono fun x H1 => ?_⟩
  rintro ⟨ρ1, env1, h1, ds, R1, er1, pa1, rd, r1⟩
  split at r1
  · next hz => exact ⟨by rw [← rd.length]; exact hz, fun pp hn => res_tup R1 rd r1 hn⟩
  · exact r1.elim
theorem pe_lstM {es : List Expr} {ces : CEs} {W : WX} {pos : Pos} (ha : PA X es (tM L p (VRs L) (evEs ev ces) W)) : PE X (.List es pos) (tM L p (VR L) (evE ev (.lst ces)) W) := by
  refine PE.imp (pe_lst ha) fun σ H Q q => ?_
  obtain ⟨pn, ρ, env, h0, R, er, pa, r⟩ := tM_bind (P := VRs L) q
  refine ⟨pn, ρ, env, h0, R, er, pa, r.mono fun x H1 => ?_⟩
  rintro ⟨ρ1, env1, h1, ds, R1, er1, pa1, rd, r1⟩
  split at r1
  · next hz => exact ⟨by rw [← rd.length]; exact hz, fun pp hn => res_alloc R1 rd r1 hn⟩
  · exact r1.elim
theorem pe_edct {W : WX} {pos : Pos} : PE X (.Dict [] [] pos) (tM L p (VR L) (evE ev .edct) W) :=
  PE.imp pe_dnewK fun σ H Q ⟨_, ρ, env, h0, R, er, _, r⟩ pp hn => r (ρ ++ [pp]) _ (.ref pp) (ext_alloc hn) (R.alloc hn (.dct .nil)) (.ref (by rw [← R.len]; simp))
theorem pe_negM {a : Expr} {ca : CE} {W : WX} {pos : Pos} (ha : PE X a (tM L p (VR L) (evE ev ca) W)) : PE X (.UnaryOp .USub a pos) (tM L p (VR L) (evE ev (.neg ca)) W) := by
  refine PE.imp (pe_un un_neg ha) fun σ H Q q => ?_
  obtain ⟨pn, ρ, env, h0, R, er, pa, r⟩ := tM_bind (P := VR L) q
  refine ⟨pn, ρ, env, h0, R, er, pa, r.mono fun x H1 => ?_⟩
  rintro ⟨ρ1, env1, h1, d, R1, er1, pa1, rd, r1⟩
  cases rd with
  | int i => exact ⟨i, rfl, r1.ret R1 (.int _)⟩
  | _ => exact r1.elim
theorem pe_revM (C : CxOk L Γ n ev p X) {a : Expr} {ca : CE} {W : WX} {k : Nat} {p1 p2 p3 pos : Pos} (ha : PE X a (tM L p (VR L) (evE ev ca) W)) :
    PE X (.Subscript a (.Slice none none (some (.UnaryOp .USub (.Constant (.int 1) k p1) p2)) p3) pos) (tM L p (VR L) (evE ev (.rev ca)) W) := by
  refine PE.imp (pe_revT ha) fun σ H Q q => ?_
  obtain ⟨pn, ρ, env, h0, R, er, pa, r⟩ := tM_bind (P := VR L) q
  refine ⟨pn, ρ, env, h0, R, er, pa, r.mono fun x H1 => ?_⟩
  rintro ⟨ρ1, env1, h1, d, R1, er1, pa1, rd, r1⟩
  cases rd with
  | tup ht hv => exact ⟨_, _, rfl, by rw [C.x0.K]; exact ht.sq, fun pp hn => res_tup R1 hv.rev r1 hn⟩
  | _ => exact r1.elim
theorem plainIx {b : Expr} (h : noSlice b = true) : PlainIx b := by
  intro o i
  cases b <;> first | rfl | cases h
theorem pe_idxM (C : CxOk L Γ n ev p X) {a b : Expr} {ca cb : CE} {W : WX} {pos : Pos} (hs : noSlice b = true) (ha : PE X a (tM L p (VR L) (evE ev ca) W)) (hb : PE X b (tM L p (VR L) (evE ev cb) W)) :
    PE X (.Subscript a b pos) (tM L p (VR L) (evE ev (.idx ca cb)) W) := by
  refine ⟨fun pins s σ H Q I q => ?_⟩
  have pn := q.1
  refine Subscript_ (bin ha hb I (R := fun x y H2 => ∃ ρ h d e, Rep L ρ h H2 ∧ VRel L.K ρ H2 d x ∧ VRel L.K ρ H2 e y ∧ res L (VR L) ρ H2 (idxD d e h) Q (fun c d H' => W c d σ H')) ?_ fun v u s2 x y H2 I2 rx ry ⟨ρ, h2, d, e, R, r1, r2, q⟩ => ?_)
  · obtain ⟨_, ρ, env, h0, R, er, pa, r⟩ := q
    simp only [evE] at r
    refine tM_next (P := VR L) (m := evE ev ca) (f := fun env x => M.bind (evE ev cb env) fun y => idxD x y) pn R er pa r fun ρ1 H1 h1 d1 v1 e1 R1 er1 pa1 rd1 r1 => ?_
    exact tM_next (P := VR L) (m := evE ev cb) (f := fun _ y => idxD d1 y) pn R1 er1 pa1 r1 fun ρ2 H2 h2 e y e2 R2 _ _ re r2 => ⟨ρ2, h2, d1, e, R2, rd1.mono e2, re, r2⟩
  · exact item_ok X a b pins s2 σ H2 x y v u Q _ ρ h2 d e C.x0 I2 rx ry R r1 r2 (plainIx hs v u) q
/-! ### calls -/
theorem pe_callM (C : CxOk L Γ n ev p X) {x : Str} {i k : Nat} {es : List Expr} {ces : CEs} {W : WX} {p1 pos : Pos} (tk : Takes X W) (hg : globB Γ.sc x = true) (hp : posOf Γ.g.fns x = some i) (hh : Γ.hot = false) (hc : cL (cE k Γ) es = some ces)
    (ha : PA X es (tM L p (VRs L) (evEs ev ces) W)) : PE X (.Call (.Name x p1) es [] pos) (tM L p (VR L) (evE ev (.call i ces)) W) := by
  refine ⟨fun pins s σ H Q I q => ?_⟩
  obtain ⟨g1, g2, _, _⟩ := gl_of C hg
  have q := tM_bind (P := VRs L) (f := fun _ xs => match ev.l with | c :: _ => c.call i xs | [] => M.bad) q
  obtain ⟨a, hm, hk⟩ := C.gb.fnv x i hp
  refine wpAny_Call_Name_kw (ld_glob I g1 (by rw [C.x0.mg]; exact hm) ?_ g2)
  have fin : ∀ (s1 : Shared) (H1 : Hp) (vs : List V) (us : List Value), Inv X pins σ H1 s1 → Vals vs us → (∃ ρ1 env h1 ds, Rep L ρ1 h1 H1 ∧ ERel L.K ρ1 H1 env σ ∧ Past p ρ1 H1 ∧ VRs L ρ1 H1 ds vs ∧
        res L (VR L) ρ1 H1 ((match ev.l with | c :: _ => c.call i ds | [] => M.bad) h1) Q (fun c d H' => W c d σ H')) → wpAny (model X.prog X.w) X.A (call (.ref a) us) (EP X pins σ Q) X.xe s1 := by
    intro s1 H1 vs us I1 rv ⟨ρ1, env, h1', ds, R1, er1, pa1, rds, r1⟩
    rw [C.lev] at r1
    cases n with
    | zero => exact r1.elim
    | succ m =>
      obtain ⟨a', fd, ps, f1, f2, f3, F, hnp⟩ := (C.fns 0 m (by omega) i x hp).ex
      rw [hm] at f1
      cases f1
      have r1 : res L (VR L) ρ1 H1 ((mkCl L.pg (tabs L.pg m)).call i ds h1') Q (fun c d H' => W c d σ H') := r1
      have hlen : vs.length = ps.length := by
        have r2 := r1
        simp only [mkCl] at r2
        split at r2
        · next fd' e =>
          split at r2
          · next e2 => rw [← rds.length, e2.2, hnp fd' e]
          · exact r2.elim
        · exact r2.elim
      refine run_fnM (X := X) (E := WE W σ) (by rw [C.x0.K, C.x0.mg]; exact F) (C.room hh) C.x0.gd (by rw [C.x0.K]; exact f3) (passAt tk σ) I1 rv ?_
      exact ⟨hlen, ρ1, h1', ds, R1, rds, r1⟩
  cases es with
  | nil =>
    refine PySem.W.callWith_K0 I.kIn (by rw [C.x0.K]; exact hk) ?_
    cases hc
    obtain ⟨pn, ρ, env, h0, R, er, pa, r⟩ := q
    exact fin s H [] [] I .nil (r.ret R .nil)
  | cons e es =>
    obtain ⟨ca, cb, c1, c2, rfl⟩ := cL_cons hc
    exact PySem.W.callWith_K (h₀ := X.base) I.ok.mod.kin (by rw [C.x0.K]; exact hk) (thn (ha.run pos pins s σ H _ I q) fun us s1 ⟨vs, H1, I1, rv, q1⟩ => ⟨I1.kIn, fin s1 H1 vs us I1 rv q1⟩) (star_of c1 es _) (plain_of pos _ c2)
/-- the built-in functions and types -/
def btV : Bt → Value
  | .len => .builtin "len"
  | .abs => .builtin "abs"
  | .max => .builtin "max"
  | .min => .builtin "min"
  | .int => .type "int"
  | .list => .type "list"
  | .tuple => .type "tuple"
  | .repr => .builtin "repr"
  | .all => .builtin "all"
theorem bt_ok (b : Bt) (h : X.calm = true ∨ b = .repr) (C : X0 L X) {pins : List (Addr × Obj)} {s : Shared} {σ : L2.St} {H : Hp} {xs : List V} {us : List Value} {Q : VK} {W : Value → Option Addr → Hp → Prop} {ρ : List Addr} {hh : Hh} {ds : List D} (I : Inv X pins σ H s)
    (r : Vals xs us) (R : Rep L ρ hh H) (rs : VRels L.K ρ H ds xs) (q : res L (VR L) ρ H (btD b ds hh) Q W) : wpAny (model X.prog X.w) X.A (call (btV b) us) (EP X pins σ Q) X.xe s := by
  have go : ∀ {f g}, X.calm = true → CallOk L f g → res L (VR L) ρ H (g ds hh) Q W → wpAny (model X.prog X.w) X.A (call f us) (EP X pins σ Q) X.xe s := fun {f g} c k q => k X pins s σ H xs us Q W ρ hh ds C c I r R rs q
  by_cases e : b = .repr
  · subst e
    exact repr_ok X pins s σ H xs us Q W ρ hh ds C I r R rs q
  · have hc : X.calm = true := by
      rcases h with h | h
      · exact h
      · exact absurd h e
    cases b with
    | len => exact go hc len_ok q
    | abs => exact go hc abs_ok q
    | max => exact go hc max_ok q
    | min => exact go hc min_ok q
    | int => exact go hc int_ok q
    | list => exact go hc list_ok q
    | tuple => exact go hc tuple_ok q
    | repr => exact absurd rfl e
    | all => exact go hc all_ok q
theorem bt_boot {x : Str} {b : Bt} (h : cBt x = some b) : bootBuiltins x = some (btV b) := by
  unfold cBt at h
  repeat' split at h
  all_goals first | (cases h; done) | skip
  all_goals (cases h; subst_vars; first
    | exact PySem.boot_len | exact PyProof.Rows.boot_abs | exact PyProof.Rows.boot_max | exact PyProof.Rows.boot_min | exact PyProof.Rows.boot_int | exact PyProof.Rows.boot_list | exact PyProof.Rows.boot_tuple | exact PyProof.Rows.boot_repr | exact PyProof.Rows.boot_all)
theorem pe_btM (C : CxOk L Γ n ev p X) {x : Str} {b : Bt} {k : Nat} {e : Expr} {es : List Expr} {ces : CEs} {W : WX} {p1 pos : Pos} (hg : globB Γ.sc x = true) (hb : x ∈ Γ.g.bl) (hx : cBt x = some b) (hh : X.calm = true ∨ b = .repr) (hc : cL (cE k Γ) (e :: es) = some ces)
    (ha : PA X (e :: es) (tM L p (VRs L) (evEs ev ces) W)) : PE X (.Call (.Name x p1) (e :: es) [] pos) (tM L p (VR L) (evE ev (.bt b ces)) W) := by
  refine ⟨fun pins s σ H Q I q => ?_⟩
  obtain ⟨g1, g2, _, g3⟩ := gl_of C hg
  have q := tM_bind (P := VRs L) (f := fun _ xs => btD b xs) q
  obtain ⟨ca, cb, c1, c2, rfl⟩ := cL_cons hc
  refine wpAny_Call_Name_kw (ld_blt I g1 (by rw [C.x0.mg]; exact C.gb.bl x hb) (bt_boot hx) ?_ g3 g2)
  have arg : wpAny (model X.prog X.w) X.A (spliced (backTo pos (starEach (e :: es) X.env))) (fun us s1 => wpAny (model X.prog X.w) X.A (call (btV b) us) (EP X pins σ Q) X.xe s1) X.xe s :=
    thn (ha.run pos pins s σ H _ I q) fun us s1 ⟨vs, H1, I1, rv, ρ1, env, h1, ds, R1, er1, pa1, rds, r1⟩ => bt_ok b hh C.x0 I1 rv R1 rds r1
  cases b with
  | int => exact PyProof.Rows.callWith_type1 arg (star_of c1 es _) (plain_of pos _ c2)
  | list => exact PyProof.Rows.callWith_type1 arg (star_of c1 es _) (plain_of pos _ c2)
  | tuple => exact PyProof.Rows.callWith_type1 arg (star_of c1 es _) (plain_of pos _ c2)
  | _ => exact PyProof.Rows.callWith_builtin1 arg (star_of c1 es _) (plain_of pos _ c2)
/-! ### methods -/
def bmT : Bm → String
  | .append => "list"
  | .insert => "list"
  | .join => "str"
def bmI : Bm → String
  | .append => "list.append"
  | .insert => "list.insert"
  | .join => "str.join"
theorem bm_ty {b : Bm} {d : D} {h : Hh} {ρ : List Addr} {H : Hp} {x : V} {Q : Unit → Hp → Prop} {W : Value → Option Addr → Hp → Prop} (R : Rep L ρ h H) (r : VRel L.K ρ H d x) (q : res L UR ρ H (bmK b d h) Q W) :
    tyV L.K (bmT b) x H ∧ bmK b d h = .ok () h := by
  have lst : ∀ {r : Nat} {a : Addr}, ρ[r]? = some a → (∃ xs, h[r]? = some (.lst xs)) → tyV L.K "list" (.ref a) H := fun {r a} hr ⟨xs, e⟩ => by
    obtain ⟨vs, e1, r1⟩ := lst_at R hr e
    exact .inl ⟨rfl, vs, .inl (.inl e1)⟩
  cases b <;> cases r <;> first
    | exact q.elim
    | exact ⟨rfl, rfl⟩
    | (simp only [bmK] at q ⊢
       split at q
       · next xs e => exact ⟨lst (by assumption) ⟨_, e⟩, rfl⟩
       · exact q.elim)
theorem bm_ok (b : Bm) : MethOk L (bmI b) (bmD b) := by
  cases b with
  | append => exact append_ok
  | insert => exact insert_ok
  | join => exact join_ok
theorem base_of {o : Expr} {m : Str} {env : PySem.Env} {w : Sem Value} (h : plainO o = true) : attributeBase o m env w = w := by
  unfold attributeBase
  split
  · cases h
  · rfl
theorem bm_slot (b : Bm) {m : Str} (h : cBm m = some b) : PlainAttrs (bmT b) ∧ Slot (bmT b) m (bmI b) ∧ typeOf (.builtin (bmI b)) = pure (.type "method_descriptor") := by
  unfold cBm at h
  repeat' split at h
  all_goals first | (cases h; done) | skip
  all_goals (cases h; subst_vars; first
    | exact ⟨PySem.F.plainAttrs_list, PySem.F.slot_list_append, PySem.F.type_list_append⟩
    | exact ⟨PySem.F.plainAttrs_list, PySem.F.slot_list_insert, PySem.F.type_list_insert⟩
    | exact ⟨PySem.F.plainAttrs_str, PySem.F.slot_str_join, PySem.F.type_str_join⟩)
theorem pe_bmM (C : CxOk L Γ n ev p X) {o : Expr} {co : CE} {b : Bm} {m : Str} {k : Nat} {e : Expr} {es : List Expr} {ces : CEs} {W : WX} {p1 pos : Pos} (hm : cBm m = some b) (hh : X.calm = true) (hpl : plainO o = true) (hline : (p1.endLine == pos.line) = true) (hl : (e :: es).length < 30)
    (hc : cL (cE k Γ) (e :: es) = some ces) (ho : PE X o (tM L p (VR L) (evE ev co) W)) (ha : PA X (e :: es) (tM L p (VRs L) (evEs ev ces) W)) : PE X (.Call (.Attribute o m p1) (e :: es) [] pos) (tM L p (VR L) (evE ev (.bm b co ces)) W) := by
  obtain ⟨sl1, sl2, sl3⟩ := bm_slot b hm
  obtain ⟨ca, cb, c1, c2, rfl⟩ := cL_cons hc
  refine ⟨fun pins s σ H Q I q => ?_⟩
  have hfew : ((backTo pos (starEach (e :: es) X.env)).all (fun x => !x.1) && (backToKw pos (keywordEach [] X.env)).all (fun x => x.1.isSome)
      && decide ((e :: es).length + ([] : List Keyword).length + (if ([] : List Keyword).isEmpty then 0 else 1) < 30)) = true := by
    rw [plain_all pos X.env hc]
    have : (e :: es).length + ([] : List Keyword).length + (if ([] : List Keyword).isEmpty then 0 else 1) < 30 := by simpa using hl
    simp only [Bool.true_and, Bool.and_eq_true, decide_eq_true_eq]
    exact ⟨rfl, this⟩
  have pn := q.1
  obtain ⟨_, ρ, env, h0, R, er, pa, r⟩ := q
  simp only [evE] at r
  refine wpAny_Call_method_late (base_of hpl) hfew hline rfl (thn (ho.run pins s σ H _ I (tM_next (P := VR L) (m := evE ev co) (f := fun env x => M.bind (bmK b x) fun _ => M.bind (evEs ev (.cons ca cb) env) fun xs => bmD b x xs) pn R er pa r
    (Q2 := fun x H1 => ∃ ρ1 env h1 d, Rep L ρ1 h1 H1 ∧ ERel L.K ρ1 H1 env σ ∧ Past p ρ1 H1 ∧ VRel L.K ρ1 H1 d x ∧ tyV L.K (bmT b) x H1 ∧ res L (VR L) ρ1 H1 (M.bind (evEs ev (.cons ca cb) env) (fun xs => bmD b d xs) h1) Q (fun c d H' => W c d σ H')) ?_)) fun v s1 ⟨x, H1, I1, r1, ρ1, env1, h1, d, R1, er1, pa1, rd, ty, q1⟩ => ?_)
  · intro ρ1 H1 h1 d x e1 R1 er1 pa1 rd r1
    have q2 := res.bind (P := UR) r1
    obtain ⟨ty, ek⟩ := bm_ty R1 rd q2
    refine ⟨ρ1, env, h1, d, R1, er1, pa1, rd, ty, ?_⟩
    simp only [M.bind, ek] at r1
    exact r1
  · obtain ⟨t1, t2⟩ := tyV_is I1 r1 (by rw [C.x0.K]; exact ty)
    refine ⟨bmT b, bmI b, sl1, sl2, sl3, t1, t2, ?_⟩
    have hA := ha.run pos pins s1 σ H1 (fun vs H2 => ∃ ρ2 h2 ds, Rep L ρ2 h2 H2 ∧ VRel L.K ρ2 H2 d x ∧ VRels L.K ρ2 H2 ds vs ∧ res L (VR L) ρ2 H2 (bmD b d ds h2) Q (fun c d H' => W c d σ H')) I1
      (tM_next (P := VRs L) (m := evEs ev (.cons ca cb)) (f := fun _ xs => bmD b d xs) pn R1 er1 pa1 q1 fun ρ2 H2 h2 ds vs e2 R2 er2 pa2 rds r2 => ⟨ρ2, h2, ds, R2, rd.mono e2, rds, r2⟩)
    rw [star_of c1 es X.env] at hA ⊢
    refine Calls.callWith_builtin (by show (false || (backTo pos (starEach es X.env)).any (·.1)) = false; rw [plain_of pos _ c2]; rfl) (Calls.evalArgs_plain ?_)
    exact thn hA fun us s2 ⟨vs, H2, I2, r2, ρ2, h2, ds, R2, rd2, rds, q2⟩ => bm_ok b X pins s2 σ H2 x v vs us Q _ ρ2 h2 d ds C.x0 hh I2 r1 r2 R2 rd2 rds q2
/-! ### isinstance -/
theorem ty_boot {x : Str} {t : Ty} (h : cTy x = some t) : bootBuiltins x = some (.type (tyN t)) := by
  unfold cTy at h
  repeat' split at h
  all_goals first | (cases h; done) | skip
  all_goals (cases h; subst_vars; first
    | exact PyProof.Rows.boot_int | exact PyProof.Rows.boot_bool | exact PyProof.Rows.boot_str | exact PyProof.Rows.boot_tuple | exact PyProof.Rows.boot_list | exact PyProof.Rows.boot_dict)
theorem pe_isiM (C : CxOk L Γ n ev p X) {k : Nat} {a : Expr} {ca : CE} {x t : Str} {ty : Ty} {W : WX} {p1 p2 pos : Pos} (hx : x = "isinstance") (hg : globB Γ.sc x = true) (hb : x ∈ Γ.g.bl) (hg2 : globB Γ.sc t = true) (hb2 : t ∈ Γ.g.bl) (ht : cTy t = some ty) (hc : cE k Γ a = some ca)
    (ha : PE X a (tM L p (VR L) (evE ev ca) W)) : PE X (.Call (.Name x p1) [a, .Name t p2] [] pos) (tM L p (VR L) (evE ev (.isi ca ty)) W) := by
  refine ⟨fun pins s σ H Q I q => ?_⟩
  obtain ⟨g1, g2, _, g3⟩ := gl_of C hg
  obtain ⟨k1, k2, _, k3⟩ := gl_of C hg2
  refine wpAny_Call_Name_kw (ld_blt I g1 (by rw [C.x0.mg]; exact C.gb.bl x hb) (u := .builtin "isinstance") (by rw [hx]; exact PyProof.Rows.boot_isinstance) ?_ g3 g2)
  have ht2 : PE X (.Name t p2) (tC (.ty (tyN ty))) := pe_bltn k1 (by rw [C.x0.mg]; exact C.gb.bl t hb2) (ty_boot ht) rfl k3 k2
  have pa2 : PA X [a, .Name t p2] (tCons (tM L p (VR L) (evE ev ca) W) (tCons (tC (.ty (tyN ty))) tNil)) := pa_cons ha (pa_cons ht2 pa_nil (by rfl)) (star_of hc _ _)
  have q := tM_bind (P := VR L) (f := fun _ x => fun h => match isTy h ty x with | some k => MX.R.ok (D.bl k) h | none => .bad) q
  have q2 : tCons (tM L p (VR L) (evE ev ca) W) (tCons (tC (.ty (tyN ty))) tNil) σ H (fun vs H1 => ∃ x, vs = [x, .ty (tyN ty)] ∧ ∃ ρ1 env h1 d, Rep L ρ1 h1 H1 ∧ ERel L.K ρ1 H1 env σ ∧ Past p ρ1 H1 ∧ VRel L.K ρ1 H1 d x ∧
      res L (VR L) ρ1 H1 (match isTy h1 ty d with | some k => MX.R.ok (D.bl k) h1 | none => .bad) Q (fun c d H' => W c d σ H')) := by
    obtain ⟨pn, ρ, env, h0, R, er, pa, r⟩ := q
    exact ⟨pn, ρ, env, h0, R, er, pa, r.mono fun x H1 z => ⟨x, rfl, z⟩⟩
  refine PyProof.Rows.callWith_builtin1 (thn (pa2.run pos pins s σ H _ I q2) fun us s1 ⟨vs, H1, I1, rv, x, ev', ρ1, env, h1, d, R1, er1, pa1, rd, r1⟩ => ?_) (star_of hc _ _) (by rfl)
  subst ev'
  split at r1
  · next kk e => exact isi_ok C.x0 I1 rv R1 rd e (r1.ret R1 (.bl _))
  · exact r1.elim
end
end MX
set_option maxHeartbeats 4000000
namespace MX
open PySem PySem.Spec PyProof.Rows L2
/-! ### targets -/
mutual
def slotsT : Tg → List Nat
  | .name i => [i]
  | .tup ts => slotsTs ts
def slotsTs : Tgs → List Nat
  | .nil => []
  | .cons t ts => slotsT t ++ slotsTs ts
end
/-- two states alike off some slots -/
def OffEq (vs : List Nat) (σ σ' : L2.St) : Prop := σ'.length = σ.length ∧ ∀ j, j ∉ vs → σ'[j]? = σ[j]?
theorem OffEq.refl (vs : List Nat) (σ : L2.St) : OffEq vs σ σ := ⟨rfl, fun _ _ => rfl⟩
theorem OffEq.trans {vs us : List Nat} {σ σ1 σ2 : L2.St} (a : OffEq vs σ σ1) (b : OffEq us σ1 σ2) : OffEq (vs ++ us) σ σ2 :=
  ⟨b.1.trans a.1, fun j h => (b.2 j fun z => h (List.mem_append_right _ z)).trans (a.2 j fun z => h (List.mem_append_left _ z))⟩
theorem wipe_off {vs : List Nat} {σ σ' : L2.St} : OffEq vs σ (L2.wipe σ vs) := by
  refine ⟨L2.wipe_length σ vs, fun j h => ?_⟩
  induction vs with
  | nil => rfl
  | cons v vs ih =>
    show ((L2.wipe σ vs).set v none)[j]? = σ[j]?
    rw [List.getElem?_set_ne (fun e => h (by rw [e]; exact List.mem_cons_self))]
    exact ih fun z => h (List.mem_cons_of_mem _ z)
theorem wipe_at {vs : List Nat} {σ : L2.St} {j : Nat} (h : j ∈ vs) (hj : j < σ.length) : (L2.wipe σ vs)[j]? = some none := by
  induction vs with
  | nil => cases h
  | cons v vs ih =>
    show ((L2.wipe σ vs).set v none)[j]? = some none
    by_cases e : v = j
    · subst e
      rw [List.getElem?_set_self (by rw [L2.wipe_length]; exact hj)]
    · rw [List.getElem?_set_ne e]
      rcases List.mem_cons.mp h with z | z
      · exact absurd z.symm e
      · exact ih z
theorem wipe_eq {vs us : List Nat} {σ σ2 : L2.St} (s : ∀ j ∈ us, j ∈ vs) (o : OffEq us (L2.wipe σ vs) σ2) : L2.wipe σ2 vs = L2.wipe σ vs := by
  apply List.ext_getElem?
  intro j
  have l2 : σ2.length = σ.length := o.1.trans (L2.wipe_length σ vs)
  by_cases h : j ∈ vs
  · by_cases hj : j < σ.length
    · rw [wipe_at h (by rw [l2]; exact hj), wipe_at h hj]
    · rw [List.getElem?_eq_none (by rw [L2.wipe_length]; omega), List.getElem?_eq_none (by rw [L2.wipe_length]; omega)]
  · rw [(wipe_off (σ' := σ)).2 j h, o.2 j fun z => h (s j z), (wipe_off (σ' := σ)).2 j h]

/-- the reading of a target's store -/
def tG (L : Lk) (p : Pn) (f : D → Env → Option Env) (vs : List Nat) : TG := fun v σ H Q =>
  Pins p σ ∧ ∃ ρ env d env', ERel L.K ρ H env σ ∧ VRel L.K ρ H d v ∧ f d env = some env' ∧ ∀ σ', ERel L.K ρ H env' σ' → Pins p σ' → OffEq vs σ σ' → Q σ' H
def tGs (L : Lk) (p : Pn) (f : List D → Env → Option Env) (vs : List Nat) : TGs := fun xs σ H Q =>
  Pins p σ ∧ ∃ ρ env ds env', ERel L.K ρ H env σ ∧ VRels L.K ρ H ds xs ∧ f ds env = some env' ∧ ∀ σ', ERel L.K ρ H env' σ' → Pins p σ' → OffEq vs σ σ' → Q σ' H
theorem PG.imp {X : Cx} {e : Expr} {t t' : TG} (h : PG X e t) (k : ∀ v σ H Q, t' v σ H Q → t v σ H Q) : PG X e t' := ⟨fun pins s σ H v u Q I r q => h.run pins s σ H v u Q I r (k v σ H Q q)⟩
theorem PGs.imp {X : Cx} {e : List Expr} {t t' : TGs} (h : PGs X e t) (k : ∀ v σ H Q, t' v σ H Q → t v σ H Q) : PGs X e t' := ⟨fun pins s σ H v u Q I r q => h.run pins s σ H v u Q I r (k v σ H Q q)⟩
section
variable {L : Lk} {Γ : Cn} {n : Nat} {ev : Ev} {p : Pn} {X : Cx}
theorem store_of (C : CxOk L Γ n ev p X) {x : Str} {i : Nat} (h : storeOf Γ x = some i) : X.N[i]? = some x ∧ Loc X.env.scope x ∧ (X.fn x = true ∨ X.env.scope.names.lookup x = some .local) ∧ i ∉ p.pv.map (·.1) ∧ locB Γ x = true := by
  unfold storeOf at h
  split at h
  · next j hb e =>
    split at h
    · cases h
    · next hp =>
      cases h
      simp only [Bool.and_eq_true] at hb
      have hN : X.N[i]? = some x := by
        rw [C.N]
        exact posOf_get e
      have hl := hb.1
      unfold locB at hl
      refine ⟨hN, ?_, ?_, by rw [C.pin]; exact hp, hb.1⟩
      · show X.env.scope.names.lookup x = some .local ∨ X.env.scope.names.lookup x = some .cell
        rw [C.sc]
        split at hl
        · next e => exact .inl e
        · next e => exact .inr e
        · cases hl
      · rw [C.sc]
        split at hl
        · next e => exact .inr e
        · next e => exact .inl (C.fn x hl)
        · cases hl
  · cases h
def lenT : Tgs → Nat
  | .nil => 0
  | .cons _ ts => lenT ts + 1
theorem asg_len : ∀ {ts : Tgs} {xs : List D} {env env' : Env}, asgTs ts xs env = some env' → xs.length = lenT ts
  | .nil, [], _, _, _ => rfl
  | .nil, _ :: _, _, _, h => by simp only [asgTs] at h; cases h
  | .cons _ _, [], _, _, h => by simp only [asgTs] at h; cases h
  | .cons t ts, d :: r, env, env', h => by
    simp only [asgTs] at h
    split at h
    · next e1 h1 => rw [List.length_cons, asg_len h]; rfl
    · cases h
theorem cTg_plain {k : Nat} {e : Expr} {t : Tg} (h : cTg Γ k e = some t) (es : List Expr) (env : PySem.Env) : assignEach (e :: es) env = (false, assign e env) :: assignEach es env := by
  cases k with
  | zero =>
    simp only [cTg] at h
    cases h
  | succ k => cases e <;> first | rfl | (simp only [cTg] at h; cases h)
theorem pg_tgts (C : CxOk L Γ n ev p X) : ∀ k : Nat, (∀ {e : Expr} {t : Tg}, cTg Γ k e = some t → PG X e (tG L p (asgT t) (slotsT t))) ∧
    ∀ {es : List Expr} {ts : Tgs}, cTgs Γ k es = some ts → PGs X es (tGs L p (asgTs ts) (slotsTs ts)) ∧ (assignEach es X.env).length = lenT ts ∧ (assignEach es X.env).findIdx? (·.1) = none := by
  intro k
  induction k with
  | zero =>
    refine ⟨fun {e t} h => ?_, fun {es ts} h => ?_⟩
    · simp only [cTg] at h
      cases h
    · simp only [cTgs] at h
      cases h
  | succ k ih =>
    refine ⟨fun {e t} h => ?_, fun {es ts} h => ?_⟩
    · cases e with
      | Name x pos =>
        simp only [cTg] at h
        cases e : storeOf Γ x with
        | none =>
          rw [e] at h
          cases h
        | some i =>
          rw [e] at h
          cases h
          obtain ⟨h1, h2, h3, h4, _⟩ := store_of C e
          refine PG.imp (pg_name (by rw [C.N]; exact C.nd) h1 h2 h3) fun v σ H Q ⟨pn, ρ, env, d, env', er, rd, ea, q⟩ => ?_
          cases ea
          exact q _ (er.set rd i) (pn.set h4) ⟨by simp, fun j hj => by rw [List.getElem?_set_ne]; intro z; exact hj (by rw [← z]; exact List.mem_singleton.mpr rfl)⟩
      | Tuple es j pos =>
        simp only [cTg] at h
        split at h
        · cases h
        · next hot =>
          cases e : cTgs Γ k es with
          | none =>
            rw [e] at h
            cases h
          | some ts =>
            rw [e] at h
            cases h
            obtain ⟨pg, hs1, hs2⟩ := ih.2 e
            refine PG.imp (pg_tup (C.calm (by simpa using hot)) pg hs1 hs2) fun v σ H Q ⟨pn, ρ, env, d, env', er, rd, ea, q⟩ => ?_
            cases rd with
            | tup ht hv =>
              simp only [asgT] at ea
              refine ⟨_, _, rfl, by rw [C.x0.K]; exact ht.sq, ?_, pn, ρ, env, _, env', er, hv, ea, q⟩
              rw [← hv.length]
              exact asg_len ea
            | _ => cases ea
      | _ =>
        simp only [cTg] at h
        cases h
    · cases es with
      | nil =>
        simp only [cTgs] at h
        cases h
        refine ⟨PGs.imp pgs_nil fun v σ H Q ⟨pn, ρ, env, ds, env', er, rd, ea, q⟩ => ?_, rfl, rfl⟩
        cases rd with
        | nil =>
          simp only [asgTs] at ea
          cases ea
          exact ⟨rfl, q σ er pn (OffEq.refl _ _)⟩
        | cons a b => cases ea
      | cons e es =>
        simp only [cTgs] at h
        cases e1 : cTg Γ k e with
        | none =>
          rw [e1] at h
          cases h
        | some t1 =>
          cases e2 : cTgs Γ k es with
          | none =>
            rw [e1, e2] at h
            cases h
          | some ts1 =>
            rw [e1, e2] at h
            cases h
            obtain ⟨pg, hs1, hs2⟩ := ih.2 e2
            have hp := cTg_plain e1 es X.env
            refine ⟨PGs.imp (pgs_cons (ih.1 e1) pg (by rw [hp]; rfl)) fun v σ H Q ⟨pn, ρ, env, ds, env', er, rd, ea, q⟩ => ?_, ?_, ?_⟩
            · cases rd with
              | nil =>
                simp only [asgTs] at ea
                cases ea
              | cons a b =>
                simp only [asgTs] at ea
                split at ea
                · next env1 ea1 => exact ⟨_, _, rfl, pn, ρ, env, _, env1, er, a, ea1, fun σ1 er1 pn1 o1 => ⟨pn1, ρ, env1, _, env', er1, b, ea, fun σ2 er2 pn2 o2 => q σ2 er2 pn2 (o1.trans o2)⟩⟩
                · cases ea
            · rw [hp]
              show (assignEach es X.env).length + 1 = lenT ts1 + 1
              rw [hs1]
            · rw [hp, List.findIdx?_cons]
              simp only [Bool.false_eq_true, if_false]
              rw [hs2]
              rfl
end
end MX
set_option maxHeartbeats 4000000
namespace MX
open PySem PySem.Spec PyProof.Rows L2
/-! ### what is walked -/
def WkRel (K : PySem.W.Frag) (ρ : List Addr) (H : Hp) (wk : Wk) (J : L2.It) (i : Nat) : Prop := match wk with
  | .tup xs => ∃ a vs, J = Itt K a ∧ TupAt K H a vs ∧ i ≤ vs.length ∧ VRels K ρ H xs (vs.drop i)
  | .lst r j _ => ∃ a, J = Itl K a ∧ ρ[r]? = some a ∧ j = i
  | .str cs => ∃ x : Str, J = Its x ∧ cs = x.cps.toList.drop i ∧ i ≤ x.cps.size
  | .rng lo n => ∃ lo0 n0, J = Itr lo0 n0 ∧ lo = lo0 + (i : Int) ∧ i ≤ n0 ∧ n = n0 - i
theorem WkRel.mono {K : PySem.W.Frag} {ρ ρ' : List Addr} {H H' : Hp} {wk : Wk} {J : L2.It} {i : Nat} (e : Ext ρ H ρ' H') (h : WkRel K ρ H wk J i) : WkRel K ρ' H' wk J i := by
  cases wk with
  | tup xs =>
    obtain ⟨a, vs, h1, h2, h3, h4⟩ := h
    exact ⟨a, vs, h1, h2.mono e, h3, h4.mono e⟩
  | lst r j k =>
    obtain ⟨a, h1, h2, h3⟩ := h
    exact ⟨a, h1, e.get h2, h3⟩
  | str cs => exact h
  | rng lo n => exact h
section
variable {L : Lk} {ρ : List Addr} {h : Hh} {H : Hp} {wk : Wk} {J : L2.It} {i : Nat}
theorem wk_stop (R : Rep L ρ h H) (w : WkRel L.K ρ H wk J i) (e : wk.next h = some none) : J.stop i H := by
  cases wk with
  | tup xs =>
    obtain ⟨a, vs, rfl, h2, h3, h4⟩ := w
    cases xs with
    | nil =>
      refine ⟨vs, h2.sq, ?_⟩
      have := h4.length
      simp at this
      omega
    | cons d r => cases e
  | lst r j k =>
    obtain ⟨a, rfl, h2, rfl⟩ := w
    simp only [Wk.next] at e
    split at e
    · next ys e1 =>
      simp only [seqOf] at e1
      split at e1
      · next xs e2 =>
        cases e1
        split at e
        · next hl =>
          split at e
          · obtain ⟨vs, e3, r3⟩ := lst_at R h2 e2
            exact ⟨vs, .inl (.inl e3), by rw [← r3.length, hl]; exact Nat.le_refl _⟩
          · cases e
          · cases e
        · cases e
      · cases e1
    · cases e
  | str cs =>
    obtain ⟨x, rfl, h2, h3⟩ := w
    cases cs with
    | nil =>
      show x.cps.size ≤ i
      have := congrArg List.length h2
      simp at this
      omega
    | cons d r => cases e
  | rng lo n =>
    obtain ⟨lo0, n0, rfl, h1, h2, h3⟩ := w
    cases n with
    | zero =>
      show n0 ≤ i
      omega
    | succ m => cases e
theorem wk_go (R : Rep L ρ h H) (w : WkRel L.K ρ H wk J i) {d : D} {wk' : Wk} (e : wk.next h = some (some (d, wk'))) : J.go i H ∧ ∀ x H', J.yld i H x H' → H' = H ∧ VRel L.K ρ H d x ∧ WkRel L.K ρ H wk' J (i + 1) := by
  cases wk with
  | tup xs =>
    obtain ⟨a, vs, rfl, h2, h3, h4⟩ := w
    cases xs with
    | nil => cases e
    | cons d' r =>
      cases e
      cases hd : vs.drop i with
      | nil =>
        rw [hd] at h4
        cases h4
      | cons v us =>
        rw [hd] at h4
        cases h4 with
        | cons q1 q2 =>
          have g : vs[i]? = some v := by
            have := congrArg List.head? hd
            rw [List.head?_drop] at this
            exact this
          have hl : i < vs.length := (List.getElem?_eq_some_iff.mp g).1
          refine ⟨⟨vs, v, h2.sq, g⟩, fun x H' y => ?_⟩
          obtain ⟨rfl, y⟩ := y
          have z := y vs h2.sq
          rw [g] at z
          cases z
          refine ⟨rfl, q1, a, vs, rfl, h2, hl, ?_⟩
          have : vs.drop (i + 1) = us := by
            rw [← List.drop_drop, hd]
            rfl
          rw [this]
          exact q2
  | lst r j k =>
    obtain ⟨a, rfl, h2, rfl⟩ := w
    simp only [Wk.next] at e
    split at e
    · next ys e1 =>
      simp only [seqOf] at e1
      split at e1
      · next xs e2 =>
        cases e1
        split at e
        · next hl =>
          split at e
          · cases e
          · next k' d' hd =>
            cases e
            obtain ⟨vs, e3, r3⟩ := lst_at R h2 e2
            obtain ⟨v, g, q⟩ := r3.get hd
            have sq : SqL L.K H a vs := .inl (.inl e3)
            refine ⟨⟨vs, v, sq, g⟩, fun x H' y => ?_⟩
            obtain ⟨rfl, y⟩ := y
            have z := y vs sq
            rw [g] at z
            cases z
            exact ⟨rfl, q, a, rfl, h2, rfl⟩
          · cases e
        · cases e
      · cases e1
    · cases e
  | str cs =>
    obtain ⟨x, rfl, h2, h3⟩ := w
    cases cs with
    | nil => cases e
    | cons c r =>
      cases e
      have g : x.cps[i]? = some c := by
        have := congrArg List.head? h2.symm
        rw [List.head?_drop] at this
        simpa using this
      have hl : i < x.cps.size := (Array.getElem?_eq_some_iff.mp g).1
      refine ⟨hl, fun y H' q => ?_⟩
      obtain ⟨rfl, c', q1, rfl⟩ := q
      rw [g] at q1
      cases q1
      refine ⟨rfl, .str _, x, rfl, ?_, hl⟩
      rw [← List.drop_drop, ← h2]
      rfl
  | rng lo n =>
    obtain ⟨lo0, n0, rfl, h1, h2, h3⟩ := w
    cases n with
    | zero => cases e
    | succ m =>
      cases e
      have hl : i < n0 := by omega
      refine ⟨hl, fun y H' q => ?_⟩
      obtain ⟨rfl, rfl⟩ := q
      subst h1
      exact ⟨rfl, .int _, lo0, n0, rfl, by omega, hl, by omega⟩
end
abbrev WR (L : Lk) : List Addr → Hp → Wk → L2.It → Prop := fun ρ H wk J => WkRel L.K ρ H wk J 0
theorem PI.imp {X : Cx} {tg e : Expr} {t t' : TI} (h : PI X tg e t) (k : ∀ σ H R, t' σ H R → t σ H R) : PI X tg e t' := ⟨fun pins s σ H R I q => h.run pins s σ H R I (k σ H R q)⟩
section
variable {L : Lk} {Γ : Cn} {n : Nat} {ev : Ev} {p : Pn} {X : Cx}
theorem pi_seqM (C : CxOk L Γ n ev p X) {tg e : Expr} {ce : CE} {W : WX} (he : PE X e (tM L p (VR L) (evE ev ce) W)) : PI X tg e (tM L p (WR L) (evI ev (.seq ce)) W) := by
  refine ⟨fun pins s σ H Q I q => ?_⟩
  obtain ⟨pn, ρ, env, h0, R, er, pa, r⟩ := q
  simp only [evI] at r
  have q0 := res.bind (P := VR L) r
  cases ee : evE ev ce env h0 with
  | bad =>
    rw [ee] at q0
    exact q0.elim
  | exc x h1 =>
    rw [ee] at q0
    refine (pi_list (tg := tg) he).run pins s σ H Q I ⟨pn, ρ, env, h0, R, er, pa, ?_⟩
    rw [ee]
    exact q0
  | ok d h1 =>
    have r1 := r
    simp only [M.bind, ee] at r1
    cases d with
    | tup xs =>
      refine (pi_tup (tg := tg) he).run pins s σ H Q I ⟨pn, ρ, env, h0, R, er, pa, ?_⟩
      rw [ee]
      intro ρ' H' b x R' rd
      cases rd with
      | tup ht hv =>
        refine ⟨_, rfl, ⟨_, by rw [C.x0.K]; exact ht.sq⟩, r1 ρ' H' _ x R' ?_⟩
        exact ⟨_, _, by rw [C.x0.K], ht, Nat.zero_le _, hv⟩
    | str y =>
      refine (pi_str (tg := tg) he).run pins s σ H Q I ⟨pn, ρ, env, h0, R, er, pa, ?_⟩
      rw [ee]
      intro ρ' H' b x R' rd
      cases rd
      simp only [wkOf] at r1
      split at r1
      · exact ⟨y, rfl, r1 ρ' H' _ x R' ⟨y, rfl, rfl, Nat.zero_le _⟩⟩
      · exact r1.elim
    | ref k =>
      refine (pi_list (tg := tg) he).run pins s σ H Q I ⟨pn, ρ, env, h0, R, er, pa, ?_⟩
      rw [ee]
      intro ρ' H' b x R' rd
      cases rd with
      | ref hr =>
        simp only [wkOf, seqOf] at r1
        cases e2 : h1[k]? with
        | none =>
          rw [e2] at r1
          exact r1.elim
        | some o =>
          cases o with
          | lst xs =>
            rw [e2] at r1
            obtain ⟨vs, e3, r3⟩ := lst_at R' hr e2
            exact ⟨_, rfl, ⟨vs, .inl (.inl e3)⟩, r1 ρ' H' _ x R' ⟨_, by rw [C.x0.K], hr, rfl⟩⟩
          | _ =>
            rw [e2] at r1
            exact r1.elim
    | _ => exact r1.elim
theorem pi_rngM (C : CxOk L Γ n ev p X) {tg e : Expr} {ce : CE} {k : Nat} {x : Str} {W : WX} {p1 pos : Pos} (hx : x = "range") (hg : globB Γ.sc x = true) (hb : x ∈ Γ.g.bl) (hc : cE k Γ e = some ce) (he : PE X e (tM L p (VR L) (evE ev ce) W)) :
    PI X tg (.Call (.Name x p1) [e] [] pos) (tM L p (WR L) (evI ev (.rng ce)) W) := by
  subst hx
  obtain ⟨g1, g2, _, g3⟩ := gl_of C hg
  refine PI.imp (pi_range1 g1 (by rw [C.x0.mg]; exact C.gb.bl _ hb) (pa_cons he pa_nil (star_of hc _ _)) (star_of hc _ _)) fun σ H Q q => ?_
  obtain ⟨pn, ρ, env, h0, R, er, pa, r⟩ := tM_bind (P := VR L) (f := fun _ d => wkRng d) q
  refine ⟨pn, ρ, env, h0, R, er, pa, r.mono fun y H1 => ?_⟩
  rintro ⟨ρ1, env1, h1, d, R1, er1, pa1, rd, r1⟩
  show ∃ j : Int, [y] = [V.int j] ∧ _
  cases rd with
  | int j =>
    simp only [wkRng] at r1
    split at r1
    · next hz => exact ⟨j, rfl, hz.1, hz.2, r1.ret R1 ⟨0, j.toNat, rfl, by simp, Nat.zero_le _, by simp⟩⟩
    · exact r1.elim
  | _ => exact r1.elim
/-! ### comprehensions -/
theorem res.noX {α β : Type} {P : List Addr → Hp → α → β → Prop} {m : M α} {h : Hh} {H : Hp} {ρ : List Addr} {Q : β → Hp → Prop} {W W' : Value → Option Addr → Hp → Prop} (r : res L P ρ H (noX m h) Q W) : res L P ρ H (m h) Q W' := by
  unfold MX.noX at r
  cases e : m h with
  | ok a h' =>
    rw [e] at r
    exact r
  | exc x h' =>
    rw [e] at r
    exact r.elim
  | bad =>
    rw [e] at r
    exact r.elim
theorem blk_ok (C : CxOk L Γ n ev p X) (hh : Γ.hot = false) {s : Shared} {H : Hp} {scope : Scope} {cl : List (Str × Addr)} {A : Addr} {fp : List Addr} :
    CxOk L { Γ with sc := relS scope Γ.sc, pin := [], thk := none, xas := none, lam := false, fnc := fun x => scope.names.lookup x == some .cell } n ev ⟨[], p.ρ0, p.H0⟩ (X.blk s H scope (compEnvC scope cl A X.env) fp) where
  x0 := ⟨C.x0.K, C.x0.mg, C.x0.un, C.x0.gd⟩
  gb := C.gb
  N := C.N
  nd := C.nd
  sc := by
    show relS scope X.env.scope = relS scope Γ.sc
    rw [C.sc]
  pin := rfl
  room := C.room
  calm := C.calm
  fn := fun x h => h
  pg := C.pg
  lev := C.lev
  fns := C.fns
  thks := C.thks
  thk := fun x h => by cases h
  xas := fun x h => by cases h
  lam := fun h => by cases h
def OR (L : Lk) : List Addr → Hp → Option D → Option V → Prop := fun ρ H a b => match a, b with
  | some d, some v => VRel L.K ρ H d v
  | none, none => True
  | _, _ => False
/-- the compiled target stores in the comprehension's own slots -/
theorem own_of {scope : Scope} {k : Nat} : ∀ k : Nat, (∀ {e : Expr} {t : Tg}, cTg { Γ with sc := relS scope Γ.sc, pin := [], thk := none, xas := none, lam := false, fnc := fun x => scope.names.lookup x == some .cell } k e = some t → ∀ j ∈ slotsT t, j ∈ (ownOf Γ.N scope).map (·.2)) ∧
    ∀ {es : List Expr} {ts : Tgs}, cTgs { Γ with sc := relS scope Γ.sc, pin := [], thk := none, xas := none, lam := false, fnc := fun x => scope.names.lookup x == some .cell } k es = some ts → ∀ j ∈ slotsTs ts, j ∈ (ownOf Γ.N scope).map (·.2) := by
  intro k
  induction k with
  | zero =>
    refine ⟨fun {e t} h => ?_, fun {es ts} h => ?_⟩
    · simp only [cTg] at h
      cases h
    · simp only [cTgs] at h
      cases h
  | succ k ih =>
    refine ⟨fun {e t} h => ?_, fun {es ts} h => ?_⟩
    · cases e with
      | Name x pos =>
        simp only [cTg] at h
        cases e : storeOf { Γ with sc := relS scope Γ.sc, pin := [], thk := none, xas := none, lam := false, fnc := fun x => scope.names.lookup x == some .cell } x with
        | none =>
          rw [e] at h
          cases h
        | some i =>
          rw [e] at h
          cases h
          intro j hj
          simp only [slotsT, List.mem_singleton] at hj
          subst hj
          unfold storeOf at e
          split at e
          · next i' hb ep =>
            split at e
            · cases e
            · cases e
              simp only [Bool.and_eq_true] at hb
              have hl := hb.1
              unfold locB at hl
              simp only at hl ep
              have key : scope.names.lookup x = some .local ∨ scope.names.lookup x = some .cell := by
                split at hl
                · next e1 =>
                  obtain ⟨k', e2, r⟩ := lookup_relS (sc := Γ.sc) e1
                  rcases r with rfl | ⟨_, z⟩
                  · exact .inl e2
                  · cases z
                · exact .inr (by simpa using hl)
                · cases hl
              refine List.mem_map.mpr ⟨(x, j), ?_, rfl⟩
              unfold ownOf
              refine List.mem_filterMap.mpr ?_
              rcases key with key | key
              · exact ⟨(x, .local), PySem.mem_of_lookup key, by simp [ep]⟩
              · exact ⟨(x, .cell), PySem.mem_of_lookup key, by simp [ep]⟩
          · cases e
      | Tuple es j pos =>
        simp only [cTg] at h
        split at h
        · cases h
        · cases e : cTgs { Γ with sc := relS scope Γ.sc, pin := [], thk := none, xas := none, lam := false, fnc := fun x => scope.names.lookup x == some .cell } k es with
          | none =>
            rw [e] at h
            cases h
          | some ts =>
            rw [e] at h
            cases h
            exact ih.2 e
      | _ =>
        simp only [cTg] at h
        cases h
    · cases es with
      | nil =>
        simp only [cTgs] at h
        cases h
        intro j hj
        cases hj
      | cons e es =>
        simp only [cTgs] at h
        cases e1 : cTg { Γ with sc := relS scope Γ.sc, pin := [], thk := none, xas := none, lam := false, fnc := fun x => scope.names.lookup x == some .cell } k e with
        | none =>
          rw [e1] at h
          cases h
        | some t1 =>
          cases e2 : cTgs { Γ with sc := relS scope Γ.sc, pin := [], thk := none, xas := none, lam := false, fnc := fun x => scope.names.lookup x == some .cell } k es with
          | none =>
            rw [e1, e2] at h
            cases h
          | some ts1 =>
            rw [e1, e2] at h
            cases h
            intro j hj
            simp only [slotsTs, List.mem_append] at hj
            rcases hj with hj | hj
            · exact ih.1 e1 j hj
            · exact ih.2 e2 j hj
end
end MX
set_option maxHeartbeats 4000000
namespace MX
open PySem PySem.Spec PyProof.Rows L2
section
variable {L : Lk} {Γ : Cn} {n : Nat} {ev : Ev} {p : Pn} {X : Cx}
/-- a clause's test -/
def condM (ev : Ev) (cond : CEs) (env : Env) : M Bool := match cond with
  | .nil => M.pure true
  | .cons c _ => M.bind (evE ev c env) tru
def turnM (ev : Ev) (elt : CE) (own : List Nat) (tg : Tg) (cond : CEs) (env : Env) (v : D) : M (Option D) := noX (match asgT tg v (wipeE env own) with
  | some env' => M.bind (condM ev cond env') fun k => match k with
    | true => M.bind (evE ev elt env') fun y => M.pure (some y)
    | false => M.pure none
  | none => M.bad)
theorem comp_eq (elt : CE) (own : List Nat) (tg : Tg) (it : It) (cond : CEs) (env : Env) : evE ev (.comp elt own tg it cond) env = M.bind (evI ev it env) fun wk => M.bind (alloc (.lst [])) fun d => match d with
    | .ref r => M.bind (loopC (turnM ev elt own tg cond env) r wk.len wk) fun _ => M.pure (.ref r)
    | _ => M.bad := by
  simp only [evE]
  rfl
theorem bind_bind {α β γ : Type} (m : M α) (f : α → M β) (g : β → M γ) : M.bind (M.bind m f) g = M.bind m (fun a => M.bind (f a) g) := by
  funext h
  unfold M.bind
  cases m h <;> rfl
theorem loopC_go {turn : D → M (Option D)} {r m : Nat} {wk wk' : Wk} {h : Hh} {d : D} {γ : Type} {k : Unit → M γ} (e : wk.next h = some (some (d, wk'))) : M.bind (loopC turn r (m + 1) wk) k h = M.bind (turn d) (fun o => M.bind (match o with
    | some y => M.bind (app r y) fun _ => loopC turn r m wk'
    | none => loopC turn r m wk') k) h := by
  rw [← bind_bind]
  have : loopC turn r (m + 1) wk h = M.bind (turn d) (fun o => match o with
    | some y => M.bind (app r y) fun _ => loopC turn r m wk'
    | none => loopC turn r m wk') h := by
    rw [loopC]
    simp only [e] <;> rfl
  unfold M.bind at this ⊢
  rw [this]
/-- what holds at a turn -/
def LoopW (L : Lk) (p : Pn) (σ : L2.St) (env : Env) (turn : D → M (Option D)) (J : L2.It) (A : Addr) (Q : VK) (W : Value → Option Addr → Hp → Prop) (i m : Nat) (H : Hp) : Prop :=
  ∃ ρ h wk r, Rep L ρ h H ∧ ERel L.K ρ H env σ ∧ Past p ρ H ∧ WkRel L.K ρ H wk J i ∧ ρ[r]? = some A ∧ res L (VR L) ρ H (M.bind (loopC turn r m wk) (fun _ => M.pure (.ref r)) h) Q W
theorem comp_read (C : CxOk L Γ n ev p X) {scope : Scope} {tg : Expr} {ce : CE} {tg' : Tg} {it : It} {cond : CEs} {k : Nat} {W : WX} {σ : L2.St} {H : Hp} {Q : VK}
    (hg : cTg { Γ with sc := relS scope Γ.sc, pin := [], thk := none, xas := none, lam := false, fnc := fun x => scope.names.lookup x == some .cell } k tg = some tg')
    (q : tM L p (VR L) (evE ev (.comp ce ((ownOf Γ.N scope).map (·.2)) tg' it cond)) W σ H Q) :
    tLc (tM L p (WR L) (evI ev it) W) (tG L ⟨[], p.ρ0, p.H0⟩ (asgT tg') (slotsT tg')) (tM L ⟨[], p.ρ0, p.H0⟩ BR (condM ev cond) (fun _ _ _ _ => False)) (tM L ⟨[], p.ρ0, p.H0⟩ (VR L) (evE ev ce) (fun _ _ _ _ => False)) ((ownOf Γ.N scope).map (·.2)) σ H Q := by
  have own := (own_of (Γ := Γ) (scope := scope) (k := k) k).1 hg
  have pn := q.1
  obtain ⟨_, ρ, env, h0, R, er, pa, r⟩ := q
  rw [comp_eq] at r
  refine tM_next (P := WR L) (P' := VR L) (m := evI ev it) (f := fun env wk => M.bind (alloc (.lst [])) fun d => match d with
    | .ref r => M.bind (loopC (turnM ev ce ((ownOf Γ.N scope).map (·.2)) tg' cond env) r wk.len wk) fun _ => M.pure (D.ref r)
    | _ => M.bad) pn R er pa r fun ρ1 H1 h1 wk J e1 R1 er1 pa1 rw1 r1 => ?_
  intro A hn
  have RA := R1.alloc (p := A) (o := .lst []) (u := .lst []) hn (.lst .nil)
  have eA : Ext ρ1 H1 (ρ1 ++ [A]) (upd H1 A (.lst [])) := ext_alloc hn
  have hr : (ρ1 ++ [A])[h1.length]? = some A := by
    rw [← R1.len]
    simp
  refine ⟨LoopW L p σ env (turnM ev ce ((ownOf Γ.N scope).map (·.2)) tg' cond env) J A Q (fun c d H' => W c d σ H'), ⟨wk.len, ρ1 ++ [A], h1 ++ [.lst []], wk, h1.length, RA, er1.mono eA, pa1.trans eA, rw1.mono eA, hr, ?_⟩, ?_⟩
  · exact res.later eA r1
  · rintro i m H2 ⟨ρ2, h2, wk2, r2, R2, er2, pa2, w2, hr2, q2⟩
    cases em : wk2.next h2 with
    | none =>
      cases m <;> (simp only [M.bind, loopC, em] at q2; exact q2.elim)
    | some o =>
      cases o with
      | none =>
        refine .inl ⟨wk_stop R2 w2 em, ?_⟩
        cases m <;> (simp only [M.bind, loopC, em] at q2; exact q2.ret R2 (.ref hr2))
      | some y =>
        obtain ⟨d, wk3⟩ := y
        cases m with
        | zero =>
          simp only [M.bind, loopC, em] at q2
          exact q2.elim
        | succ m =>
          obtain ⟨go, yl⟩ := wk_go R2 w2 em
          refine .inr ⟨go, fun H' => LoopW L p σ env (turnM ev ce ((ownOf Γ.N scope).map (·.2)) tg' cond env) J A Q (fun c d H' => W c d σ H') (i + 1) m H', fun H' z => ⟨m, Nat.lt_succ_self m, z⟩, fun x H' y => ?_⟩
          obtain ⟨rfl, rd, w3⟩ := yl x H' y
          -- the turn
          have q3 : res L (VR L) ρ2 H' (M.bind (turnM ev ce ((ownOf Γ.N scope).map (·.2)) tg' cond env d) (fun o => M.bind (match o with
              | some y => M.bind (app r2 y) fun _ => loopC (turnM ev ce ((ownOf Γ.N scope).map (·.2)) tg' cond env) r2 m wk3
              | none => loopC (turnM ev ce ((ownOf Γ.N scope).map (·.2)) tg' cond env) r2 m wk3) fun _ => M.pure (.ref r2)) h2) Q (fun c d H' => W c d σ H') := by
            rw [loopC_go em] at q2
            exact q2
          have q4 := res.noX (W' := fun _ _ _ => False) (res.bind (P := OR L) q3)
          cases ea : asgT tg' d (wipeE env ((ownOf Γ.N scope).map (·.2))) with
          | none =>
            simp only [ea] at q4
            exact q4.elim
          | some env2 =>
            simp only [ea] at q4
            refine ⟨(fun _ h => by cases h), ρ2, wipeE env ((ownOf Γ.N scope).map (·.2)), d, env2, er2.wipe _, rd, ea, fun σ3 er3 _ off => ⟨wipe_eq own off, ?_⟩⟩
            have nxt : ∀ {ρ3 : List Addr} {h3 : Hh} {H3 : Hp}, Ext ρ2 H' ρ3 H3 → Rep L ρ3 h3 H3 → res L (VR L) ρ3 H3 (M.bind (loopC (turnM ev ce ((ownOf Γ.N scope).map (·.2)) tg' cond env) r2 m wk3) (fun _ => M.pure (.ref r2)) h3) Q (fun c d H' => W c d σ H') →
                LoopW L p σ env (turnM ev ce ((ownOf Γ.N scope).map (·.2)) tg' cond env) J A Q (fun c d H' => W c d σ H') (i + 1) m H3 := fun {ρ3 h3 H3} e R3 z => ⟨ρ3, h3, wk3, r2, R3, er2.mono e, pa2.trans e, w3.mono e, e.get hr2, z⟩
            refine ⟨(fun _ h => by cases h), ρ2, env2, h2, R2, er3, pa2, (res.bind (P := BR) q4).mono fun b H3 => ?_⟩
            rintro ⟨ρ3, h3, b', e3, R3, rfl, q5⟩
            cases b' with
            | false =>
              refine iteF ?_
              obtain ⟨ρ4, h4, a, e4, R4, ra, q6⟩ := q5.ret (b := none) R3 trivial
              cases a with
              | none => exact nxt e4 R4 q6
              | some z => exact ra.elim
            | true =>
              refine iteT ⟨(fun _ h => by cases h), ρ3, env2, h3, R3, er3.mono e3, pa2.trans e3, (res.bind (P := VR L) q5).mono fun y H4 => ?_⟩
              rintro ⟨ρ4, h4, d4, e4, R4, rd4, q6⟩
              obtain ⟨ρ5, h5, a, e5, R5, ra, q7⟩ := q6.ret (b := some y) R4 rd4
              cases a with
              | none => exact ra.elim
              | some d5 =>
                have ra : VRel L.K ρ5 H4 d5 y := ra
                simp only [bind_bind] at q7
                obtain q8 := res.bind (P := UR) q7
                simp only [app] at q8
                cases e6 : h5[r2]? with
                | none =>
                  rw [e6] at q8
                  exact q8.elim
                | some o =>
                  cases o with
                  | lst xs =>
                    rw [e6] at q8
                    simp only at q8
                    split at q8
                    · next hz =>
                      have hr5 : ρ5[r2]? = some A := e5.get hr2
                      obtain ⟨vs, g1, g2⟩ := lst_at R5 hr5 e6
                      refine ⟨vs, g1, by rw [← g2.length]; exact hz, ?_⟩
                      have e9 : Ext ρ5 H4 ρ5 (upd H4 A (.lst (vs ++ [y]))) := ext_upd R5 hr5
                      obtain ⟨ρ9, h9, _, e10, R9, _, q9⟩ := q8 ρ5 _ () e9 (R5.set hr5 e6 (.lst (g2.append (.cons ra .nil)))) trivial
                      exact nxt (e5.trans e10) R9 q9
                    · exact q8.elim
                  | _ =>
                    rw [e6] at q8
                    exact q8.elim
theorem comp_fold {iter : Expr} (hs : noSet iter = true) (env : PySem.Env) (x : Value) : foldedSetIterable iter env x = pure x := by
  cases iter <;> first | rfl | cases hs
theorem pe_compM (C : CxOk L Γ n ev p X) (hh : Γ.hot = false) {elt tg iter : Expr} {ifs : List Expr} {scope : Scope} {pos : Pos} {ce : CE} {tg' : Tg} {it : It} {cond : CEs} {k : Nat} {W : WX} (hb : blkC Γ.N Γ.sc scope (ownOf Γ.N scope) = true) (hs : noSet iter = true)
    (hi : PI X tg iter (tM L p (WR L) (evI ev it) W)) (hg : cTg { Γ with sc := relS scope Γ.sc, pin := [], thk := none, xas := none, lam := false, fnc := fun x => scope.names.lookup x == some .cell } k tg = some tg')
    (ht : ∀ (s : Shared) (H : Hp) (A : Addr) (cl : List (Str × Addr)) (fp : List Addr), PTs (X.blk s H scope (compEnvC scope cl A X.env) fp) ifs (tM L ⟨[], p.ρ0, p.H0⟩ BR (condM ev cond) (fun _ _ _ _ => False)))
    (he : ∀ (s : Shared) (H : Hp) (A : Addr) (cl : List (Str × Addr)) (fp : List Addr), PE (X.blk s H scope (compEnvC scope cl A X.env) fp) elt (tM L ⟨[], p.ρ0, p.H0⟩ (VR L) (evE ev ce) (fun _ _ _ _ => False))) :
    PE X (.ListComp elt [⟨tg, iter, ifs, 0⟩] scope pos) (tM L p (VR L) (evE ev (.comp ce ((ownOf Γ.N scope).map (·.2)) tg' it cond)) W) :=
  PE.imp (pe_lc (C.calm hh) (by rw [C.N]; exact C.nd) hi (by rw [C.N, C.sc]; exact blkOk_by hb) (fun s H A cl fp => (pg_tgts (blk_ok C hh) k).1 hg) ht he (comp_fold hs _)) fun σ H Q q => comp_read C hg q
/-- name = [..] -/
theorem ps_compM (C : CxOk L Γ n ev p X) (hh : Γ.hot = false) {elt tg iter : Expr} {ifs : List Expr} {scope : Scope} {y : Str} {i : Nat} {py pos spos : Pos} {ce : CE} {tg' : Tg} {it : It} {cond : CEs} {k : Nat} {W : WX} (hb : blkC Γ.N Γ.sc scope (ownOf Γ.N scope) = true) (hs : noSet iter = true)
    (hi : PI X tg iter (tM L p (WR L) (evI ev it) W)) (hg : cTg { Γ with sc := relS scope Γ.sc, pin := [], thk := none, xas := none, lam := false, fnc := fun x => scope.names.lookup x == some .cell } k tg = some tg')
    (ht : ∀ (s : Shared) (H : Hp) (A : Addr) (cl : List (Str × Addr)) (fp : List Addr), PTs (X.blk s H scope (compEnvC scope cl A X.env) fp) ifs (tM L ⟨[], p.ρ0, p.H0⟩ BR (condM ev cond) (fun _ _ _ _ => False)))
    (he : ∀ (s : Shared) (H : Hp) (A : Addr) (cl : List (Str × Addr)) (fp : List Addr), PE (X.blk s H scope (compEnvC scope cl A X.env) fp) elt (tM L ⟨[], p.ρ0, p.H0⟩ (VR L) (evE ev ce) (fun _ _ _ _ => False)))
    (hy : X.N[i]? = some y) (hl : X.env.scope.names.lookup y = some .local) (hsw : swapsWith (.ListComp elt [⟨tg, iter, ifs, 0⟩] scope pos) (some (.Name y py)) spos.line X.env = pure true) :
    PS X (.Assign [.Name y py] (.ListComp elt [⟨tg, iter, ifs, 0⟩] scope pos) spos) (tAsg (tM L p (VR L) (evE ev (.comp ce ((ownOf Γ.N scope).map (·.2)) tg' it cond)) W) (gName i)) :=
  PS.imp (ps_setLc (C.calm hh) (by rw [C.N]; exact C.nd) hy hl hsw hi (by rw [C.N, C.sc]; exact blkOk_by hb) (fun s H A cl fp => (pg_tgts (blk_ok C hh) k).1 hg) ht he (comp_fold hs _)) fun D σ H q => comp_read C hg q
end
end MX
set_option maxHeartbeats 4000000
namespace MX
open PySem PySem.Spec PyProof.Rows L2
/-! ### what a body's end says of the call's -/
theorem res_ret {L : Lk} {p : Pn} {ρ : List Addr} {H : Hp} {r : SR} {Q : VK} {E : XK} (h : res L (VR L) ρ H (retR r) Q E) : resS L p ρ H r { nx := fun _ H' => Q .non H', rt := Q } (fun c d _ H' => E c d H') := by
  cases r with
  | nxt env h' => exact fun ρ' H' σ' e R _ _ => h ρ' H' .non e R .non
  | ret d h' => exact fun ρ' H' v e R rv => h ρ' H' v e R rv
  | exc x env h' => exact fun ρ' H' σ' c d e R _ _ xr => h ρ' H' c d e R xr
  | brk env h' => exact h.elim
  | cnt env h' => exact h.elim
  | bad => exact h.elim
section
variable {X : Cx} {pins : List (Addr × Obj)} {σ : L2.St} {H : Hp} {s : Shared}
/-- the lambda called, in the def that got it -/
theorem act_run {Eg : XK} {Ng : List Str} {qg : Str} {sg : Scope} {g f c' : Addr} {cdg pm ctv : Value} {params : Arguments} {body : Expr} {scope : Scope} {k j : Nat} {a : Str} {pnz : List (Addr × Obj)} {xez : Value → Shared → Prop} {W : WX} {tb : XK → TE} {q1 q2 : Pos}
    (I : Inv X pins σ H s) (S : LamX.LamS X.env.scope scope) (of : s.heap.get? f = some (PySem.W.kla_obj "<lambda>" (X.env.qual ++ "<lambda>") params body scope (cloFrom X.env.cells scope.names []) pm c' ctv)) (nf : H f = none) (ff : f ∉ frs X.stack)
    (bd : bindArgs (PySem.W.kla_fn "<lambda>" (X.env.qual ++ "<lambda>") params body scope (cloFrom X.env.cells scope.names []) pm (.ref c') ctv) ⟨[], []⟩ = pure [])
    (tk : Takes ((cxOf (L2.CX X.prog X.w) X.prog X.w X.K X.mg X.base Ng qg sg g cdg X.A X.stack s H Eg).tr pnz xez) W) (room : Room (k + 1) (X.A.deeper (envOfC qg sg s.heap.objs.size g cdg)))
    (run : ∀ (s1 : Shared) (H1 : Hp) (E : XK), PE (LamX.lamCx X (X.A.deeper (envOfC qg sg s.heap.objs.size g cdg)) (envOfC qg sg s.heap.objs.size g cdg :: X.stack) s1 H1 E scope f c') body (tb E))
    (aN : Ng[j]? = some a) (av : Vis sg a) (a1 : (a == ("__debug__" : Str)) = false) (a2 : (a == ("__classdict__" : Str)) = false) :
    PE ((cxOf (L2.CX X.prog X.w) X.prog X.w X.K X.mg X.base Ng qg sg g cdg X.A X.stack s H Eg).tr pnz xez) (.Call (.Name a q1) [] [] q2)
      (fun σz Hz Q => σz[j]? = some (some (.ref f)) ∧ Hz c' = some (LamX.CodeO c' (X.env.qual ++ "<lambda>")) ∧ tb (fun cls d H' => W cls d σz H') σ Hz Q) := by
  refine ⟨fun pz sz σz Hz Q Iz ⟨at_, code, q⟩ => ?_⟩
  refine wpAny_Call_Name_kw (thn ((pe_var (pos := q1) (i := j) aN av a1 a2).run pz sz σz Hz (fun v H1 => v = .ref f ∧ H1 = Hz) Iz ⟨.ref f, at_, rfl, rfl⟩) fun u s1 ⟨v, H1, I1, rv, e1, e2⟩ => ?_)
  subst e1 e2
  cases (show u = Value.ref f from rv)
  have of1 := I1.base.keep f _ of nf ff (fun z => nomatch (show f ∈ ([] : List Addr) from z))
  refine PySem.W.callWith_F0 ⟨_, _, _, _, of1⟩ ?_
  have grown : Un (frs X.stack) [] H H1 s.heap s1.heap := I1.base
  obtain ⟨⟨oc, vs, t, co1, co2, co3⟩, _, _⟩ := I1.hok c' _ code
  have called : codeAny (model X.prog X.w) (X.A.deeper (envOfC qg sg s.heap.objs.size g cdg)) (.call (.ref f) ⟨[], []⟩) (CR (L2.CX X.prog X.w) (envOfC qg sg s.heap.objs.size g cdg :: X.stack) X.prog X.w H1 s1 Q (fun cls d H' => W cls d σz H')) s1 := by
    refine PySem.W.kla_callFunE room.depth of1 rfl S.co S.gen rfl ⟨c', oc, vs, t, rfl, co1, co2, co3⟩ ?_
    rw [bd]
    refine wpAny_pure (wpAny_newFunctionEnv (fun y hy => (S.own y hy).2) (fun y hy => absurd hy (by simp)) (fun hp nsp sbp => ⟨I1.nolimit.fresh _ sbp, ?_⟩) S.kind)
    show codeAny _ _ (.expr body (LamX.lamEnv X scope s1.heap.objs.size f c')) _ _
    have J : Inv (LamX.lamCx X (X.A.deeper (envOfC qg sg s.heap.objs.size g cdg)) (envOfC qg sg s.heap.objs.size g cdg :: X.stack) s1 H1 (fun cls d H' => W cls d σz H') scope f c') [] σ H1 { s1 with heap := hp, toks := s1.toks + ([] : List (Str × Value)).length } :=
      LamX.lam_start2 I S I1.env0 room.hd grown nsp (fun b o e => sbp.extBut b o (Nat.ne_of_lt (Heap.lt_size e)) (Heap.get?_push_of_some _ e))
    refine PySem.W.kla_codeExpr (wpAny_mono ((run s1 H1 _).run [] _ _ H1 Q J q) (fun v s' ⟨w', H', J', r', q'⟩ => ⟨w', H', J'.os, J'.bare, J'.base, J'.hok, r', q'⟩) fun e s' x => x)
  refine wpAny_call (codeAny_mono called fun r s' x => ?_)
  match r, x with
  | .error e, x => exact passAt tk σz pz H1 s1 e s' I1 x
  | .ok (.ret u), x => exact I1.after x
  | .ok .next, x => exact x.elim
  | .ok .brk, x => exact x.elim
  | .ok .cont, x => exact x.elim
end
theorem no_param {params : Arguments} (h : noParam params = true) : params = ⟨[], [], none, [], [], none, []⟩ := by
  unfold noParam at h
  split at h
  · rfl
  · cases h
section
variable {L : Lk} {Γ : Cn} {n : Nat} {ev : Ev} {p : Pn} {X : Cx}
theorem pe_lamM (C : CxOk L Γ n ev p X) (hh : Γ.hot = false) (hl : Γ.lam = true) {x : Str} {i : Nat} {params : Arguments} {body : Expr} {scope : Scope} {cb : CE} {W : WX} {q1 q2 q3 : Pos} (tk : Takes X W) (hg : globB Γ.sc x = true) (hp : posOf Γ.g.fns x = some i) (ht : x ∈ Γ.g.thks)
    (hn : noParam params = true) (hs : LamX.lamSB Γ.sc scope = true)
    (run : ∀ (m : Nat) (Y : Cx) (W' : WX), CxOk L { Γ with sc := scope, thk := none, xas := none, lam := false, fnc := fun _ => false } m { ev with l := tabs L.pg m } p Y → Takes Y W' → PE Y body (tM L p (VR L) (evE { ev with l := tabs L.pg m } cb) W')) :
    PE X (.Call (.Name x q1) [.Lambda params body scope q2] [] q3) (tM L p (VR L) (evE ev (.lam i cb)) W) := by
  refine ⟨fun pins s σ H Q I q => ?_⟩
  obtain ⟨pn, ρ, env, h0, R, er, pa, r⟩ := q
  obtain ⟨g1, g2, _, _⟩ := gl_of C hg
  simp only [evE] at r
  rw [C.lev] at r
  match n, C, r with
  | 0, C, r => exact r.elim
  | 1, C, r => exact r.elim
  | m + 2, C, r =>
    have r : res L (VR L) ρ H ((mkCl L.pg (tabs L.pg (m + 1))).callL i (evE { ev with l := tabs L.pg m } cb env) h0) Q (fun c d H' => W c d σ H') := r
    simp only [mkCl] at r
    split at r
    · next fd hfd =>
      split at r
      · next hthk =>
        obtain ⟨c, P, TB, hcode, hmT, hu⟩ := (C.lam hl).tab
        obtain ⟨a, g, Ng, pg, bg, sg, dV, kV, doc, pm, cdv, ct, oc, an, od, osl, hm, lk, hcg, hb, Sg, hNg, hva, a1, a2, hns, T⟩ := (C.thks 0 (m + 1) (by omega) i x hp ht).ex
        obtain ⟨g', hm', hk⟩ := C.gb.fnv x i hp
        rw [hm] at hm'
        cases hm'
        have S : LamX.LamS X.env.scope scope := LamX.lamS_by (by rw [C.sc]; exact hs)
        have np := no_param hn
        subst np
        refine wpAny_Call_Name_kw (ld_glob I g1 (by rw [C.x0.mg]; exact hm) ?_ g2)
        refine PySem.W.callWith_K (h₀ := X.base) I.ok.mod.kin (by rw [C.x0.K]; exact hk) ?_ (by rfl) (by rfl)
        show wpAny _ _ (spliced ((false, eval (.Lambda ⟨[], [], none, [], [], none, []⟩ body scope q2) X.env) :: backTo q3 (starEach [] X.env))) _ _ s
        refine Calls.spliced_cons (LamX.lam_make2 I TB hcode hmT hu R.tabs (by rfl) (S.has I.ok) fun f c' pm' ctv H1 s1 I1 eN T1 of nf ff co => ?_)
        refine Calls.spliced_nil ⟨I1.kIn, ?_⟩
        have E1 : Ext ρ H ρ H1 := ⟨⟨[], by simp⟩, fun b o st e => eN b o e (by rintro qs rfl; exact st)⟩
        have R1 : Rep L ρ h0 H1 := ⟨R.len, R.nd, fun k b o e1 e2 => by
          obtain ⟨u, e3, e4⟩ := R.obj k b o e1 e2
          exact ⟨u, eN b u e3 e4.noTbl, e4.mono E1⟩, T1⟩
        have rm := C.room hh
        have called : codeAny (model X.prog X.w) X.A (.call (.ref g) ⟨[.ref f], []⟩) (CR (L2.CX X.prog X.w) X.stack X.prog X.w H1 s1 Q (WE W σ)) s1 := by
          refine LamX.run_ofS (K := X.K) (mg := X.mg) (base := X.base) (N := Ng) (ps := [a]) (us := [.ref f]) (vs := [.ref f]) (by rw [C.x0.K]; exact lk) (by rw [C.x0.K]; exact hcg) Sg rm I1.env0 (hb s1 [.ref f] (by rw [← C.x0.K]; exact I1.kIn) rfl) (.cons rfl .nil) rfl fun rm' => ?_
          refine ⟨tS L ⟨[(0, .ref f)], ρ, H1⟩ (exSs ⟨L.pg, tabs L.pg (m + 1), some (evE { ev with l := tabs L.pg m } cb env), none⟩ fd.body) (fun c d _ H' => W c d σ H'), ?_, ?_⟩
          · have := T X.A X.stack s1 H1 (WE W σ) f ρ H1 (evE { ev with l := tabs L.pg m } cb env) fd rm' C.x0.gd hfd (fun pnz xez Wz z1 z2 tkz => ?_) hthk
            · rw [C.x0.K, C.x0.mg]
              exact this
            · have CY : ∀ (s2 : Shared) (H2 : Hp) (E : XK), CxOk L { Γ with sc := scope, thk := none, xas := none, lam := false, fnc := fun _ => false } m { ev with l := tabs L.pg m } p
                  (LamX.lamCx X (X.A.deeper (envOfC x sg s1.heap.objs.size g cdv)) (envOfC x sg s1.heap.objs.size g cdv :: X.stack) s2 H2 E scope f c') := fun s2 H2 E => {
                x0 := ⟨C.x0.K, C.x0.mg, by have := (rm'.deeper (LamX.lamEnv X scope s2.heap.objs.size f c')).un; show ((X.A.deeper (envOfC x sg s1.heap.objs.size g cdv)).deeper (LamX.lamEnv X scope s2.heap.objs.size f c')).units + 200 < cLine; omega, C.x0.gd⟩
                gb := C.gb
                N := C.N
                nd := C.nd
                sc := rfl
                pin := C.pin
                room := fun _ => rm'.deeper _
                calm := fun _ => rfl
                fn := fun _ z => by cases z
                pg := C.pg
                lev := rfl
                fns := fun k m' z => C.fns (k + 2) m' (by omega)
                thks := fun k m' z => C.thks (k + 2) m' (by omega)
                thk := fun _ z => by cases z
                xas := fun _ z => by cases z
                lam := fun z => by cases z }
              have P1 := act_run (Eg := WE W σ) (Ng := Ng) (qg := x) (sg := sg) (g := g) (cdg := cdv) (j := 0) (q1 := z1) (q2 := z2) (a := a) (pnz := pnz) (xez := xez) (W := Wz) (k := m) I1 S of nf ff (by rfl) (by rw [C.x0.K, C.x0.mg]; exact tkz) rm'
                (tb := fun E => tM L p (VR L) (evE { ev with l := tabs L.pg m } cb) (fun c d _ H' => E c d H'))
                (fun s2 H2 E => run m _ _ (CY s2 H2 E) (takes_of rfl rfl rfl rfl)) hNg hva a1 a2
              rw [C.x0.K, C.x0.mg] at P1
              refine PE.imp P1 fun σz Hz Qz qz => ?_
              obtain ⟨pz, ρz, _, hz, Rz, _, paz, rz⟩ := qz
              refine ⟨pz (0, .ref f) (by simp), paz.sta _ _ trivial co, pn, ρz, env, hz, Rz, (er.mono E1).mono paz, (pa.trans E1).trans paz, rz⟩
          · refine ⟨fun q hq => ?_, ρ, List.replicate fd.ns none, h0, R1, ?_, Ext.refl _ _, res_ret (res.later E1 r)⟩
            · simp only [List.mem_singleton] at hq
              subst hq
              unfold L2.start
              rfl
            · rw [hns fd hfd]
              refine ⟨?_, fun k d z => ?_⟩
              · unfold L2.start
                have : 0 < Ng.length := (List.getElem?_eq_some_iff.mp hNg).1
                simp
                omega
              · rw [List.getElem?_replicate] at z
                split at z <;> cases z
        refine wpAny_call (codeAny_mono called fun r s' x => ?_)
        match r, x with
        | .error e, x => exact passAt tk σ pins H1 s1 e s' I1 x
        | .ok (.ret u), x => exact I1.after x
        | .ok .next, x => exact x.elim
        | .ok .brk, x => exact x.elim
        | .ok .cont, x => exact x.elim
      · exact r.elim
    · exact r.elim
end
end MX
namespace MX
open PySem PySem.Spec PyProof.Rows L2
section
variable {L : Lk} {Γ : Cn} {n : Nat} {ev : Ev} {p : Pn} {X : Cx}
/-- what is proved of an expression -/
def Snd (L : Lk) (ev : Ev) (p : Pn) (X : Cx) (W : WX) (e : Expr) (ce : CE) : Prop := PE X e (tM L p (VR L) (evE ev ce) W) ∧ PT X e (tM L p BR (fun env => M.bind (evE ev ce env) tru) W)
theorem Snd.of (C : CxOk L Γ n ev p X) {e : Expr} {ce : CE} {W : WX} (he : PE X e (tM L p (VR L) (evE ev ce) W)) (hp : ∀ whole, isTrue e X.env whole = (do let v ← whole; standAt e.pos; holding [v] (truthy v))) : Snd L ev p X W e ce := ⟨he, pt_plain C he hp⟩
theorem mark0 {op : CmpOp} {b : Expr} (h : noSet b = true) : behindInMarks op b = false := by
  cases b <;> first | rfl | cases h
theorem tCond_nil {Y : Cx} {q : Pn} : PTs Y [] (tM L q BR (condM ev .nil) (fun _ _ _ _ => False)) := ⟨fun pins s σ H Q I ⟨_, ρ, env, h0, R, er, pa, r⟩ => pts_nil.run pins s σ H Q I (r.ret R rfl)⟩
theorem tCond_one {Y : Cx} {q : Pn} {c : Expr} {cc : CE} (h : PT Y c (tM L q BR (fun env => M.bind (evE ev cc env) tru) (fun _ _ _ _ => False))) : PTs Y [c] (tM L q BR (condM ev (.cons cc .nil)) (fun _ _ _ _ => False)) := pts_one h
/-- the induction's hypothesis -/
def SndAt (L : Lk) (k : Nat) : Prop := ∀ (Γ : Cn) (n : Nat) (ev : Ev) (p : Pn) (X : Cx) (W : WX) (e : Expr) (ce : CE), CxOk L Γ n ev p X → Takes X W → cE k Γ e = some ce → Snd L ev p X W e ce
theorem takesN {X : Cx} : Takes X (fun _ _ _ _ => False) := fun _ _ x => by
  obtain ⟨_, _, _, _, _, _, _, _, _, _, _, _, _, _, _, _, z⟩ := x
  exact z.elim
theorem iter_ok {k : Nat} (ih : SndAt L k) {W : WX} {tg it : Expr} {it' : It} (C : CxOk L Γ n ev p X) (tk : Takes X W) (h : cIt (cE k Γ) Γ it = some it') : PI X tg it (tM L p (WR L) (evI ev it') W) := by
  have plain : ∀ {e : Expr}, (cE k Γ e).map It.seq = some it' → PI X tg e (tM L p (WR L) (evI ev it') W) := fun {e} h => by
    cases hc : cE k Γ e with
    | none =>
      rw [hc] at h
      cases h
    | some ce =>
      rw [hc] at h
      cases h
      exact pi_seqM C (ih _ _ _ _ _ _ _ _ C tk hc).1
  unfold cIt at h
  split at h
  · next x pos args pos2 =>
    split at h
    · next hx =>
      split at h
      · next hb =>
        simp only [Bool.and_eq_true, decide_eq_true_eq] at hb
        split at h
        · next a =>
          cases hc : cE k Γ a with
          | none =>
            rw [hc] at h
            cases h
          | some ca =>
            rw [hc] at h
            cases h
            exact pi_rngM C hx hb.1.1 hb.1.2 hc (ih _ _ _ _ _ _ _ _ C tk hc).1
        · cases h
      · cases h
    · exact plain h
  · exact plain h
/-- a comprehension's parts -/
structure CompP (L : Lk) (Γ : Cn) (n k : Nat) (ev : Ev) (p : Pn) (X : Cx) (W : WX) (elt : Expr) (gs : List Comprehension) (scope : Scope) (ce : CE) : Prop where
  ex : ∃ (tg iter : Expr) (ifs : List Expr) (elt' : CE) (tg' : Tg) (it' : It) (c : CEs), gs = [⟨tg, iter, ifs, 0⟩] ∧ ce = .comp elt' ((ownOf Γ.N scope).map (·.2)) tg' it' c ∧ Γ.hot = false ∧ blkC Γ.N Γ.sc scope (ownOf Γ.N scope) = true ∧ noSet iter = true ∧
    PI X tg iter (tM L p (WR L) (evI ev it') W) ∧ cTg { Γ with sc := relS scope Γ.sc, pin := [], thk := none, xas := none, lam := false, fnc := fun x => scope.names.lookup x == some .cell } k tg = some tg' ∧
    (∀ (s : Shared) (H : Hp) (A : Addr) (cl : List (Str × Addr)) (fp : List Addr), PTs (X.blk s H scope (compEnvC scope cl A X.env) fp) ifs (tM L ⟨[], p.ρ0, p.H0⟩ BR (condM ev c) (fun _ _ _ _ => False))) ∧
    ∀ (s : Shared) (H : Hp) (A : Addr) (cl : List (Str × Addr)) (fp : List Addr), PE (X.blk s H scope (compEnvC scope cl A X.env) fp) elt (tM L ⟨[], p.ρ0, p.H0⟩ (VR L) (evE ev elt') (fun _ _ _ _ => False))
theorem comp_parts {k : Nat} (ih : SndAt L k) {W : WX} {elt : Expr} {gs : List Comprehension} {scope : Scope} {pos : Pos} {ce : CE} (C : CxOk L Γ n ev p X) (tk : Takes X W) (h : cE (k + 1) Γ (.ListComp elt gs scope pos) = some ce) : CompP L Γ n k ev p X W elt gs scope ce := by
  simp only [cE] at h
  split at h
  · cases h
  · next hot =>
    split at h
    · next tg iter ifs =>
      split at h
      · next hb =>
        simp only [Bool.and_eq_true] at hb
        simp only [Option.bind_eq_bind, Option.bind_eq_some_iff, Option.some.injEq] at h
        obtain ⟨it', h1, tg', h2, elt', h3, h⟩ := h
        have hh : Γ.hot = false := by simpa using hot
        have go : ∀ {c : CEs}, (∀ (s : Shared) (H : Hp) (A : Addr) (cl : List (Str × Addr)) (fp : List Addr), PTs (X.blk s H scope (compEnvC scope cl A X.env) fp) ifs (tM L ⟨[], p.ρ0, p.H0⟩ BR (condM ev c) (fun _ _ _ _ => False))) →
            CompP L Γ n k ev p X W elt [⟨tg, iter, ifs, 0⟩] scope (.comp elt' ((ownOf Γ.N scope).map (·.2)) tg' it' c) := fun {c} hc =>
          ⟨tg, iter, ifs, elt', tg', it', c, rfl, rfl, hh, hb.1, hb.2, iter_ok ih C tk h1, h2, hc, fun s H A cl fp => (ih _ _ _ _ _ _ _ _ (blk_ok C hh) takesN h3).1⟩
        split at h
        · cases h
          exact go fun s H A cl fp => tCond_nil
        · next cnd =>
          cases hc : cE k { Γ with sc := relS scope Γ.sc, pin := [], thk := none, xas := none, lam := false, fnc := fun x => scope.names.lookup x == some .cell } cnd with
          | none =>
            rw [hc] at h
            cases h
          | some c' =>
            rw [hc] at h
            cases h
            exact go fun s H A cl fp => tCond_one (ih _ _ _ _ _ _ _ _ (blk_ok C hh) takesN hc).2
        · cases h
      · cases h
    · cases h
theorem comp_ok {k : Nat} (ih : SndAt L k) {W : WX} {elt : Expr} {gs : List Comprehension} {scope : Scope} {pos : Pos} {ce : CE} (C : CxOk L Γ n ev p X) (tk : Takes X W) (h : cE (k + 1) Γ (.ListComp elt gs scope pos) = some ce) : Snd L ev p X W (.ListComp elt gs scope pos) ce := by
  obtain ⟨tg, iter, ifs, elt', tg', it', c, rfl, rfl, hh, h1, h2, h3, h4, h5, h6⟩ := (comp_parts ih C tk h).ex
  exact Snd.of C (pe_compM C hh h1 h2 h3 h4 h5 h6) (by intro _; rfl)
theorem call_ok {k : Nat} (ih : SndAt L k) {W : WX} {f : Expr} {args : List Expr} {kws : List Keyword} {pos : Pos} {ce : CE} (C : CxOk L Γ n ev p X) (tk : Takes X W) (h : cE (k + 1) Γ (.Call f args kws pos) = some ce) : PE X (.Call f args kws pos) (tM L p (VR L) (evE ev ce) W) := by
  simp only [cE] at h
  have pa : ∀ {es : List Expr} {ces : CEs}, cL (cE k Γ) es = some ces → PA X es (tM L p (VRs L) (evEs ev ces) W) := fun {es ces} hc => pa_list (fun e ce he => (ih _ _ _ _ _ _ _ _ C tk he).1) hc
  split at h
  · split at h
    · next x p1 =>
      split at h
      · next ht =>
        split at h
        · cases h
          obtain ⟨m, h1, h2⟩ := C.thk x ht
          refine PE.imp (h2 X.pn X.xe W p1 pos tk) fun σ H Q q => ?_
          simp only [evE, h1] at q
          exact q
        · cases h
      · split at h
        · next hg =>
          split at h
          · next i hi =>
            split at h
            · cases h
            · next hot =>
              have hh : Γ.hot = false := by simpa using hot
              split at h
              · next params body scope lp =>
                split at h
                · next hb =>
                  simp only [Bool.and_eq_true, decide_eq_true_eq] at hb
                  simp only [Option.bind_eq_bind, Option.bind_eq_some_iff, Option.some.injEq] at h
                  obtain ⟨b, h1, rfl⟩ := h
                  exact pe_lamM C hh hb.1.1.1 tk hg hi hb.2 hb.1.1.2 hb.1.2 fun m Y W' CY tkY => (ih _ _ _ _ _ _ _ _ CY tkY h1).1
                · cases h
              · cases hc : cL (cE k Γ) args with
                | none =>
                  rw [hc] at h
                  cases h
                | some ces =>
                  rw [hc] at h
                  cases h
                  exact pe_callM C tk hg hi hh hc (pa hc)
          · split at h
            · next hbl =>
              split at h
              · next hx =>
                split at h
                · next a t p2 =>
                  split at h
                  · next hb =>
                    simp only [Bool.and_eq_true, decide_eq_true_eq] at hb
                    simp only [Option.bind_eq_bind, Option.bind_eq_some_iff, Option.some.injEq] at h
                    obtain ⟨a', h1, ty, h2, rfl⟩ := h
                    exact pe_isiM C hx hg hbl hb.1.1 hb.1.2 h2 h1 (ih _ _ _ _ _ _ _ _ C tk h1).1
                  · cases h
                · cases h
              · simp only [Option.bind_eq_bind, Option.bind_eq_some_iff] at h
                obtain ⟨b, h1, h⟩ := h
                split at h
                · cases h
                · next hot =>
                  simp only [Option.bind_eq_some_iff] at h
                  obtain ⟨ces, h2, h⟩ := h
                  split at h
                  · cases h
                  · next hne =>
                    cases h
                    cases args with
                    | nil =>
                      cases h2
                      exact absurd rfl hne
                    | cons e es =>
                      refine pe_btM C hg hbl h1 ?_ h2 (pa h2)
                      simp only [Bool.and_eq_true, Bool.not_eq_true', not_and, Bool.not_eq_false] at hot
                      cases hh : Γ.hot with
                      | false => exact .inl (C.calm hh)
                      | true => exact .inr (by simpa using hot hh)
            · cases h
        · cases h
    · next o m apos =>
      split at h
      · cases h
      · next hot =>
        have hh : Γ.hot = false := by simpa using hot
        split at h
        · next hb =>
          simp only [Bool.and_eq_true, decide_eq_true_eq] at hb
          simp only [Option.bind_eq_bind, Option.bind_eq_some_iff] at h
          obtain ⟨o', h1, b, h2, ces, h3, h⟩ := h
          split at h
          · cases h
          · next hne =>
            cases h
            cases args with
            | nil =>
              cases h3
              exact absurd rfl hne
            | cons e es => exact pe_bmM C h2 (C.calm hh) hb.1.1 hb.1.2 hb.2 h3 (ih _ _ _ _ _ _ _ _ C tk h1).1 (pa h3)
        · cases h
    · cases h
  · cases h
theorem iteB {α : Type} {b : Bool} {x : α} {y : α} (h : (if b = true then some x else none) = some y) : b = true ∧ x = y := by
  cases b with
  | true => exact ⟨rfl, by simpa using h⟩
  | false => simp at h
theorem snd_e : ∀ k : Nat, SndAt L k
  | 0, Γ, n, ev, p, X, W, e, ce, C, tk, h => by cases h
  | k + 1, Γ, n, ev, p, X, W, e, ce, C, tk, h => by
    have ih : SndAt L k := snd_e k
    have one : ∀ {e ce}, cE k Γ e = some ce → Snd L ev p X W e ce := fun {e ce} he => ih _ _ _ _ _ _ _ _ C tk he
    have pa : ∀ {es : List Expr} {ces : CEs}, cL (cE k Γ) es = some ces → PA X es (tM L p (VRs L) (evEs ev ces) W) := fun {es ces} hc => pa_list (fun e ce he => (one he).1) hc
    cases e with
    | Constant c j pos =>
      simp only [cE] at h
      exact Snd.of C (pe_con C h W) (by intro _; rfl)
    | Name x pos =>
      simp only [cE] at h
      exact Snd.of C (pe_name C h W) (by intro _; rfl)
    | BinOp a op b pos =>
      simp only [cE, Option.bind_eq_bind, Option.bind_eq_some_iff, Option.some.injEq] at h
      obtain ⟨a', h1, b', h2, o, h3, rfl⟩ := h
      exact Snd.of C (pe_bop C h3 (one h1).1 (one h2).1) (by intro _; rfl)
    | UnaryOp op a pos =>
      simp only [cE, Option.bind_eq_bind, Option.bind_eq_some_iff] at h
      obtain ⟨a', h1, h⟩ := h
      split at h
      · cases h
        exact ⟨pe_notM C (one h1).1, pt_notM C (one h1).2⟩
      · cases h
        exact Snd.of C (pe_negM (one h1).1) (by intro _; rfl)
      · cases h
    | BoolOp op es pos =>
      simp only [cE] at h
      split at h
      · cases h
      · next a =>
        refine ⟨pe_one (one h).1, ?_⟩
        cases op with
        | And => exact (pw_and1 (one h).2).pt
        | Or => exact (pw_or1 (one h).2).pt
      · next a b r =>
        simp only [Option.bind_eq_bind, Option.bind_eq_some_iff] at h
        obtain ⟨a', h1, b', h2, h⟩ := h
        cases op with
        | And =>
          cases h
          exact ⟨pe_andM C (one h1).1 (one h2).1, pt_andM C (one h1).2 (one h2).2⟩
        | Or =>
          cases h
          exact ⟨pe_orM C (one h1).1 (one h2).1, pt_orM C (one h1).2 (one h2).2⟩
    | Compare a ops bs pos =>
      simp only [cE] at h
      split at h
      · next op b =>
        split at h
        · split at h
          · next j q =>
            cases h1 : cE k Γ a with
            | none =>
              rw [h1] at h
              cases h
            | some a' =>
              rw [h1] at h
              cases h
              exact ⟨pe_isNM C (one h1).1, pt_isNM C (one h1).1⟩
          · cases h
        · split at h
          · next j q =>
            cases h1 : cE k Γ a with
            | none =>
              rw [h1] at h
              cases h
            | some a' =>
              rw [h1] at h
              cases h
              exact ⟨pe_notNM C (one h1).1, pt_notNM C (one h1).1⟩
          · cases h
        · split at h
          · next hs =>
            simp only [Option.bind_eq_bind, Option.bind_eq_some_iff, Option.some.injEq] at h
            obtain ⟨a', h1, b', h2, o, h3, rfl⟩ := h
            exact ⟨pe_cmpM C h3 (mark0 hs) (one h1).1 (one h2).1, pt_cmpM C h3 (mark0 hs) (one h1).1 (one h2).1⟩
          · cases h
      · next o1 o2 b c =>
        split at h
        · next hs =>
          simp only [Bool.and_eq_true] at hs
          simp only [Option.bind_eq_bind, Option.bind_eq_some_iff, Option.some.injEq] at h
          obtain ⟨a', h1, b', h2, c', h3, p1, h4, p2, h5, rfl⟩ := h
          exact ⟨pe_chainM C h4 h5 (mark0 hs.2) (one h1).1 (one h2).1 (one h3).1, pt_chainM C h4 h5 (mark0 hs.2) (one h1).1 (one h2).1 (one h3).1⟩
        · cases h
      · cases h
    | IfExp t a b pos =>
      simp only [cE, Option.bind_eq_bind, Option.bind_eq_some_iff, Option.some.injEq] at h
      obtain ⟨t', h1, a', h2, b', h3, rfl⟩ := h
      exact ⟨pe_ifM C (one h1).2 (one h2).1 (one h3).1, pt_ifM C (one h1).2 (one h2).2 (one h3).2⟩
    | Tuple es j pos =>
      simp only [cE] at h
      cases hc : cL (cE k Γ) es with
      | none =>
        rw [hc] at h
        cases h
      | some ces =>
        rw [hc] at h
        cases h
        exact Snd.of C (pe_tupM (pa hc)) (by intro _; rfl)
    | List es pos =>
      simp only [cE] at h
      cases hc : cL (cE k Γ) es with
      | none =>
        rw [hc] at h
        cases h
      | some ces =>
        rw [hc] at h
        cases h
        exact Snd.of C (pe_lstM (pa hc)) (by intro _; rfl)
    | Dict ks vs pos =>
      simp only [cE] at h
      split at h
      · cases h
        exact Snd.of C pe_edct (by intro _; rfl)
      · cases h
    | Subscript a i pos =>
      simp only [cE] at h
      split at h
      · next j p1 p2 p3 =>
        cases hc : cE k Γ a with
        | none =>
          rw [hc] at h
          cases h
        | some ca =>
          rw [hc] at h
          cases h
          exact Snd.of C (pe_revM C (one hc).1) (by intro _; rfl)
      · cases h
      · next h1 h2 =>
        simp only [Option.bind_eq_bind, Option.bind_eq_some_iff, Option.some.injEq] at h
        obtain ⟨a', g1, i', g2, rfl⟩ := h
        have hs : noSlice i = true := by
          cases i with
          | Slice l u s q => exact (h2 _ _ _ _ rfl).elim
          | _ => rfl
        exact Snd.of C (pe_idxM C hs (one g1).1 (one g2).1) (by intro _; rfl)
    | Attribute o f pos =>
      simp only [cE] at h
      split at h
      · next x p1 =>
        split at h
        · next y hy =>
          split at h
          · next hx =>
            subst hx
            cases hf : posOf Γ.g.fld f with
            | none =>
              rw [hf] at h
              cases h
            | some i =>
              rw [hf] at h
              cases h
              obtain ⟨z, h1, h2⟩ := C.xas x hy
              have e := C.gb.fld i f (posOf_get hf)
              subst e
              refine Snd.of C (PE.imp (h2 i W p1 pos) fun σ H Q q => ?_) (by intro _; rfl)
              simp only [evE, h1] at q
              exact q
          · cases h
        · cases h
      · cases h
    | ListComp elt gs scope pos => exact comp_ok ih C tk h
    | Call f args kws pos => exact Snd.of C (call_ok ih C tk h) (by intro _; rfl)
    | _ =>
      simp only [cE] at h
      cases h
end
end MX
namespace MX
open PySem PySem.Spec PyProof.Rows L2
section
variable {L : Lk} {Γ : Cn} {n : Nat} {ev : Ev} {p : Pn} {X : Cx}
/-- what statements ask besides -/
structure StOk (Γ : Cn) (X : Cx) : Prop where
  stk : X.stack = X.env :: X.outer
  fr : X.env.frame = some X.env.locals
  po : Γ.hot = false → PassesOwn (model X.prog X.w) X.A X.env X.xe
theorem resS.imp {ρ : List Addr} {H : Hp} {r : SR} {D D' : Ends} {W : WX} (h : resS L p ρ H r D W) (h1 : ∀ σ H, D.nx σ H → D'.nx σ H) (h2 : ∀ v H, D.rt v H → D'.rt v H) (h3 : ∀ σ H, D.bk σ H → D'.bk σ H) (h4 : ∀ σ H, D.ct σ H → D'.ct σ H) : resS L p ρ H r D' W := by
  cases r with
  | nxt env h' => exact fun ρ' H' σ' e R er pn => h1 _ _ (h ρ' H' σ' e R er pn)
  | brk env h' => exact fun ρ' H' σ' e R er pn => h3 _ _ (h ρ' H' σ' e R er pn)
  | cnt env h' => exact fun ρ' H' σ' e R er pn => h4 _ _ (h ρ' H' σ' e R er pn)
  | ret d h' => exact fun ρ' H' v e R rv => h2 _ _ (h ρ' H' v e R rv)
  | exc x env h' => exact h
  | bad => exact h
/-- an expression within a statement -/
theorem lift_read {α β : Type} {P : List Addr → Hp → α → β → Prop} {m : M α} {env : Env} {k : α → Hh → SR} {h0 : Hh} {ρ : List Addr} {H : Hp} {σ : L2.St} {D : Ends} {W : WX} (pn : Pins p σ) (er : ERel L.K ρ H env σ) (r : resS L p ρ H (liftE m env k h0) D W) :
    res L P ρ H (m h0) (fun b H1 => ∃ ρ1 h1 a, Ext ρ H ρ1 H1 ∧ Rep L ρ1 h1 H1 ∧ P ρ1 H1 a b ∧ resS L p ρ1 H1 (k a h1) D W) (fun c d H' => W c d σ H') := by
  unfold liftE at r
  cases e : m h0 with
  | ok a h1 =>
    rw [e] at r
    exact fun ρ1 H1 b e1 R1 pb => ⟨ρ1, h1, a, e1, R1, pb, r.later e1⟩
  | exc x h1 =>
    rw [e] at r
    exact fun ρ1 H1 c d e1 R1 xr => r ρ1 H1 σ c d e1 R1 (er.mono e1) pn xr
  | bad =>
    rw [e] at r
    exact r
theorem tS_lift {α β : Type} {P : List Addr → Hp → α → β → Prop} {m : Env → M α} {k : Env → α → Hh → SR} {D : Ends} {W : WX} {σ : L2.St} {H : Hp} (q : tS L p (fun env => liftE (m env) env (k env)) W D σ H) :
    tM L p P m W σ H (fun b H1 => Pins p σ ∧ ∃ ρ1 env h1 a, Rep L ρ1 h1 H1 ∧ ERel L.K ρ1 H1 env σ ∧ Past p ρ1 H1 ∧ P ρ1 H1 a b ∧ resS L p ρ1 H1 (k env a h1) D W) := by
  obtain ⟨pn, ρ, env, h0, R, er, pa, r⟩ := q
  refine ⟨pn, ρ, env, h0, R, er, pa, (lift_read (P := P) pn er r).mono fun b H1 => ?_⟩
  rintro ⟨ρ1, h1, a, e, R1, pb, r1⟩
  exact ⟨pn, ρ1, env, h1, a, R1, er.mono e, pa.trans e, pb, r1⟩
theorem resS.nxt {ρ : List Addr} {H : Hp} {env : Env} {h : Hh} {D : Ends} {W : WX} {σ : L2.St} (r : resS L p ρ H (.nxt env h) D W) (R : Rep L ρ h H) (er : ERel L.K ρ H env σ) (pn : Pins p σ) : D.nx σ H := r ρ H σ (Ext.refl _ _) R er pn
theorem ps_retM {e : Expr} {ce : CE} {W : WX} {pos : Pos} (he : PE X e (tM L p (VR L) (evE ev ce) W)) : PS X (.Return (some e) pos) (tS L p (exS ev (.ret ce)) W) := by
  refine PS.imp (ps_ret he) fun D σ H q => ?_
  obtain ⟨pn, ρ, env, h0, R, er, pa, r⟩ := tS_lift (P := VR L) q
  exact ⟨pn, ρ, env, h0, R, er, pa, r.mono fun v H1 ⟨_, ρ1, env1, h1, d, R1, er1, pa1, rd, r1⟩ => r1 ρ1 H1 v (Ext.refl _ _) R1 rd⟩
theorem ps_exprM {e : Expr} {ce : CE} {W : WX} {pos : Pos} (he : PE X e (tM L p (VR L) (evE ev ce) W)) (hs : swapsWith e none pos.line X.env = pure false) : PS X (.Expr e pos) (tS L p (exS ev (.expr ce)) W) := by
  refine PS.imp (ps_expr he hs) fun D σ H q => ?_
  obtain ⟨pn, ρ, env, h0, R, er, pa, r⟩ := tS_lift (P := VR L) q
  exact ⟨pn, ρ, env, h0, R, er, pa, r.mono fun v H1 ⟨_, ρ1, env1, h1, d, R1, er1, pa1, rd, r1⟩ => r1.nxt R1 er1 pn⟩
theorem ps_ifM {c : Expr} {a b : List Stmt} {cc : CE} {ca cb : CSs} {W : WX} {pos : Pos} (hc : PT X c (tM L p BR (fun env => M.bind (evE ev cc env) tru) W)) (ha : PSs X a (tS L p (exSs ev ca) W)) (hb : PSs X b (tS L p (exSs ev cb) W)) :
    PS X (.If c a b pos) (tS L p (exS ev (.ifS cc ca cb)) W) := by
  refine PS.imp (ps_if hc ha hb) fun D σ H q => ?_
  obtain ⟨pn, ρ, env, h0, R, er, pa, r⟩ := tS_lift (P := BR) q
  refine ⟨pn, ρ, env, h0, R, er, pa, r.mono fun v H1 ⟨_, ρ1, env1, h1, d, R1, er1, pa1, rd, r1⟩ => ?_⟩
  cases rd
  cases v with
  | true => exact iteT ⟨pn, ρ1, env1, h1, R1, er1, pa1, r1⟩
  | false => exact iteF ⟨pn, ρ1, env1, h1, R1, er1, pa1, r1⟩
/-- a store behind a value -/
theorem asg_read {t : Tg} {ce : CE} {D : Ends} {W : WX} {σ : L2.St} {H : Hp} (q : tS L p (exS ev (.asg t ce)) W D σ H) : tAsg (tM L p (VR L) (evE ev ce) W) (tG L p (asgT t) (slotsT t)) D σ H := by
  obtain ⟨pn, ρ, env, h0, R, er, pa, r⟩ := tS_lift (P := VR L) q
  refine ⟨pn, ρ, env, h0, R, er, pa, r.mono fun v H1 ⟨_, ρ1, env1, h1, d, R1, er1, pa1, rd, r1⟩ => ?_⟩
  split at r1
  · next env2 e => exact ⟨pn, ρ1, env1, d, env2, er1, rd, e, fun σ2 er2 pn2 _ => r1 ρ1 H1 σ2 (Ext.refl _ _) R1 er2 pn2⟩
  · exact r1.elim
/-- [x, y] = [a, b] from the right -/
theorem par_read {i j : Nat} {ca cb : CE} {D : Ends} {W : WX} {σ : L2.St} {H : Hp} (hi : i ∉ p.pv.map (·.1)) (hj : j ∉ p.pv.map (·.1)) (q : tS L p (exS ev (.par [i, j] (.cons ca (.cons cb .nil)))) W D σ H) :
    tM L p (VRs L) (evEs ev (.cons ca (.cons cb .nil))) W σ H (fun vs H1 => ∃ v w, vs = [v, w] ∧ D.nx ((σ.set i (some v)).set j (some w)) H1) := by
  obtain ⟨pn, ρ, env, h0, R, er, pa, r⟩ := tS_lift (P := VRs L) q
  refine ⟨pn, ρ, env, h0, R, er, pa, r.mono fun vs H1 ⟨_, ρ1, env1, h1, ds, R1, er1, pa1, rds, r1⟩ => ?_⟩
  match ds, rds, r1 with
  | [], _, r1 => exact r1.elim
  | [_], _, r1 => exact r1.elim
  | _ :: _ :: _ :: _, _, r1 => exact r1.elim
  | [d, e], rds, r1 =>
    obtain ⟨v, w, rfl, rv, rw'⟩ := rels2 rds
    exact ⟨v, w, rfl, r1.nxt R1 ((er1.set rv i).set rw' j) ((pn.set hi).set hj)⟩
theorem set_comm {σ : L2.St} {i j : Nat} {x y : Option V} (h : i ≠ j) : (σ.set i x).set j y = (σ.set j y).set i x := List.set_comm _ _ h
/-- o[i] = e -/
def setTM (L : Lk) : TSet := fun o i v H Q => ∃ (W : Value → Option Addr → Hp → Prop) (ρ : List Addr) (h : Hh) (a b d : D), Rep L ρ h H ∧ VRel L.K ρ H a o ∧ VRel L.K ρ H b i ∧ VRel L.K ρ H d v ∧ res L UR ρ H (setD a b d h) (fun _ => Q) W
theorem pset_M (C : X0 L X) : PSet X (setTM L) := fun pins s σ H o i v ov iv u Q I ro ri rv ⟨W, ρ, h, a, b, d, R, ra, rb, rd, q⟩ => set_ok X pins s σ H o i v ov iv u Q W ρ h a b d C I ro ri rv R ra rb rd q
theorem asgN_read {i : Nat} {ce : CE} {D : Ends} {W : WX} {σ : L2.St} {H : Hp} (hi : i ∉ p.pv.map (·.1)) (q : tS L p (exS ev (.asg (.name i) ce)) W D σ H) : tAsg (tM L p (VR L) (evE ev ce) W) (gName i) D σ H := by
  obtain ⟨pn, ρ, env, h0, R, er, pa, r⟩ := tS_lift (P := VR L) q
  exact ⟨pn, ρ, env, h0, R, er, pa, r.mono fun v H1 ⟨_, ρ1, env1, h1, d, R1, er1, pa1, rd, r1⟩ => r1.nxt R1 (er1.set rd i) (pn.set hi)⟩
theorem sets_read {co ci ce : CE} {D : Ends} {W : WX} {σ : L2.St} {H : Hp} (q : tS L p (exS ev (.sets co ci ce)) W D σ H) :
    tAsg (tM L p (VR L) (evE ev ce) W) (gSub (tM L p (VR L) (evE ev co) W) (tM L p (VR L) (evE ev ci) W) (setTM L)) D σ H := by
  obtain ⟨pn, ρ, env, h0, R, er, pa, r⟩ := tS_lift (P := UR) q
  have pn := pn
  refine tM_next (P := VR L) (m := evE ev ce) (f := fun env v => M.bind (evE ev co env) fun x => M.bind (evE ev ci env) fun y => setD x y v) pn R er pa r fun ρ1 H1 h1 v vv e1 R1 er1 pa1 rv r1 => ?_
  refine tM_next (P := VR L) (m := evE ev co) (f := fun env x => M.bind (evE ev ci env) fun y => setD x y v) pn R1 er1 pa1 r1 fun ρ2 H2 h2 x vx e2 R2 er2 pa2 rx r2 => ?_
  refine tM_next (P := VR L) (m := evE ev ci) (f := fun env y => setD x y v) pn R2 er2 pa2 r2 fun ρ3 H3 h3 y vy e3 R3 er3 pa3 ry r3 => ?_
  refine ⟨fun c d H' => W c d σ H', ρ3, h3, x, y, v, R3, rx.mono e3, ry, (rv.mono e2).mono e3, r3.mono fun _ H4 ⟨_, ρ4, env4, h4, _, R4, er4, pa4, _, r4⟩ => r4.nxt R4 er4 pn⟩
/-! ### loops -/
theorem loopF_none {turn : D → Env → Hh → SR} {m : Nat} {wk : Wk} {env : Env} {h : Hh} (e : wk.next h = none) : loopF turn m wk env h = .bad := by
  rw [loopF.eq_def]
  simp only [e]
theorem loopF_stop {turn : D → Env → Hh → SR} {m : Nat} {wk : Wk} {env : Env} {h : Hh} (e : wk.next h = some none) : loopF turn m wk env h = .nxt env h := by
  rw [loopF.eq_def]
  simp only [e]
theorem loopF_zero {turn : D → Env → Hh → SR} {wk wk' : Wk} {d : D} {env : Env} {h : Hh} (e : wk.next h = some (some (d, wk'))) : loopF turn 0 wk env h = .bad := by
  rw [loopF.eq_def]
  simp only [e]
theorem loopF_go {turn : D → Env → Hh → SR} {m : Nat} {wk wk' : Wk} {d : D} {env : Env} {h : Hh} (e : wk.next h = some (some (d, wk'))) : loopF turn (m + 1) wk env h = match turn d env h with
        | .nxt env' h' => loopF turn m wk' env' h'
        | .cnt env' h' => loopF turn m wk' env' h'
        | .brk env' h' => .nxt env' h'
        | r => r := by
  rw [loopF.eq_def]
  simp only [e] <;> rfl
def ForW (L : Lk) (p : Pn) (turn : D → Env → Hh → SR) (J : L2.It) (D : Ends) (W : WX) (i m : Nat) (σ : L2.St) (H : Hp) : Prop :=
  Pins p σ ∧ ∃ ρ env h wk, Rep L ρ h H ∧ ERel L.K ρ H env σ ∧ Past p ρ H ∧ WkRel L.K ρ H wk J i ∧ resS L p ρ H (loopF turn m wk env h) D W
theorem ps_forM {tg it : Expr} {it' : It} {t : Tg} {body : List Stmt} {cb : CSs} {W : WX} {pos : Pos} (po : PassesOwn (model X.prog X.w) X.A X.env X.xe) (hc : X.calm = true) (hs : noSet it = true) (hi : PI X tg it (tM L p (WR L) (evI ev it') W)) (hg : PG X tg (tG L p (asgT t) (slotsT t)))
    (hb : PSs X body (tS L p (exSs ev cb) W)) : PS X (.For tg it body [] pos) (tS L p (exS ev (.forS t it' cb)) W) := by
  refine PS.imp (ps_for po hc hi hg hb (fun x => by cases it <;> first | rfl | cases hs)) fun D σ H q => ?_
  obtain ⟨pn, ρ, env, h0, R, er, pa, r⟩ := tS_lift (P := WR L) q
  refine ⟨pn, ρ, env, h0, R, er, pa, r.mono fun J H1 ⟨_, ρ1, env1, h1, wk, R1, er1, pa1, rw1, r1⟩ => ?_⟩
  refine ⟨ForW L p (fun d env h => match asgT t d env with | some env' => exSs ev cb env' h | none => .bad) J D W, ⟨wk.len, pn, ρ1, env1, h1, wk, R1, er1, pa1, rw1, r1⟩, ?_⟩
  rintro i m σ2 H2 ⟨pn2, ρ2, env2, h2, wk2, R2, er2, pa2, w2, q2⟩
  cases em : wk2.next h2 with
  | none =>
    rw [loopF_none em] at q2
    exact q2.elim
  | some o =>
    cases o with
    | none =>
      refine .inl ⟨wk_stop R2 w2 em, ?_⟩
      rw [loopF_stop em] at q2
      exact q2.nxt R2 er2 pn2
    | some y =>
      obtain ⟨d, wk3⟩ := y
      cases m with
      | zero =>
        rw [loopF_zero em] at q2
        exact q2.elim
      | succ m =>
        obtain ⟨go, yl⟩ := wk_go R2 w2 em
        refine .inr ⟨go, ForW L p (fun d env h => match asgT t d env with | some env' => exSs ev cb env' h | none => .bad) J D W (i + 1) m, fun σ' H' z => ⟨m, Nat.lt_succ_self m, z⟩, fun x H' y => ?_⟩
        obtain ⟨rfl, rd, w3⟩ := yl x H' y
        rw [loopF_go em] at q2
        cases ea : asgT t d env2 with
        | none =>
          rw [ea] at q2
          exact q2.elim
        | some env3 =>
          rw [ea] at q2
          refine ⟨pn2, ρ2, env2, d, env3, er2, rd, ea, fun σ3 er3 pn3 _ => ⟨pn3, ρ2, env3, h2, R2, er3, pa2, ?_⟩⟩
          cases e6 : exSs ev cb env3 h2 with
          | nxt e h' =>
            simp only [e6] at q2
            exact fun ρ4 H4 σ4 e4 R4 er4 pn4 => ⟨pn4, ρ4, e, h', wk3, R4, er4, pa2.trans e4, w3.mono e4, q2.later e4⟩
          | cnt e h' =>
            simp only [e6] at q2
            exact fun ρ4 H4 σ4 e4 R4 er4 pn4 => ⟨pn4, ρ4, e, h', wk3, R4, er4, pa2.trans e4, w3.mono e4, q2.later e4⟩
          | brk e h' =>
            simp only [e6] at q2
            exact q2
          | ret v h' =>
            simp only [e6] at q2
            exact q2
          | exc x e h' =>
            simp only [e6] at q2
            exact q2
          | bad =>
            simp only [e6] at q2
            exact q2
def WhW (L : Lk) (p : Pn) (c : Env → M Bool) (turn : Env → Hh → SR) (D : Ends) (W : WX) (m : Nat) (σ : L2.St) (H : Hp) : Prop :=
  Pins p σ ∧ ∃ ρ env h, Rep L ρ h H ∧ ERel L.K ρ H env σ ∧ Past p ρ H ∧ resS L p ρ H (loopW c turn m env h) D W
theorem ps_whileM {c : Expr} {body : List Stmt} {cc : CE} {cb : CSs} {W : WX} {pos : Pos} (po : PassesOwn (model X.prog X.w) X.A X.env X.xe) (hc : PT X c (tM L p BR (fun env => M.bind (evE ev cc env) tru) W)) (hb : PSs X body (tS L p (exSs ev cb) W)) :
    PS X (.While c body [] pos) (tS L p (exS ev (.whileS cc cb)) W) := by
  refine PS.imp (ps_while po hc hb) fun D σ H q => ?_
  obtain ⟨pn, ρ, env, h0, R, er, pa, r⟩ := q
  refine ⟨WhW L p (fun env => M.bind (evE ev cc env) tru) (fun env h => exSs ev cb env h) D W, ⟨ev.pg.W, pn, ρ, env, h0, R, er, pa, r⟩, ?_⟩
  rintro m σ2 H2 ⟨pn2, ρ2, env2, h2, R2, er2, pa2, q2⟩
  cases m with
  | zero => exact q2.elim
  | succ m =>
    rw [loopW] at q2
    refine ⟨pn2, ρ2, env2, h2, R2, er2, pa2, (lift_read (P := BR) pn2 er2 q2).mono fun b H3 => ?_⟩
    rintro ⟨ρ3, h3, b', e3, R3, rfl, q3⟩
    cases b' with
    | false => exact iteF (q3.nxt R3 (er2.mono e3) pn2)
    | true =>
      refine iteT ⟨WhW L p (fun env => M.bind (evE ev cc env) tru) (fun env h => exSs ev cb env h) D W m, fun σ' H' z => ⟨m, Nat.lt_succ_self m, z⟩, pn2, ρ3, env2, h3, R3, er2.mono e3, pa2.trans e3, ?_⟩
      cases e6 : exSs ev cb env2 h3 with
      | nxt e h' =>
        simp only [e6] at q3
        exact fun ρ4 H4 σ4 e4 R4 er4 pn4 => ⟨pn4, ρ4, e, h', R4, er4, (pa2.trans e3).trans e4, q3.later e4⟩
      | cnt e h' =>
        simp only [e6] at q3
        exact fun ρ4 H4 σ4 e4 R4 er4 pn4 => ⟨pn4, ρ4, e, h', R4, er4, (pa2.trans e3).trans e4, q3.later e4⟩
      | brk e h' =>
        simp only [e6] at q3
        exact q3
      | ret v h' =>
        simp only [e6] at q3
        exact q3
      | exc x e h' =>
        simp only [e6] at q3
        exact q3
      | bad =>
        simp only [e6] at q3
        exact q3
end
end MX
namespace MX
open PySem PySem.Spec PyProof.Rows L2
section
variable {L : Lk} {Γ : Cn} {n : Nat} {ev : Ev} {p : Pn} {X : Cx}
/-! ### raise -/
theorem ps_raiseMM (C : CxOk L Γ n ev p X) (hh : Γ.hot = false) {x m : Str} {c j : Nat} {W : WX} {p1 p2 p3 pos : Pos} (tk : Takes X W) (hg : globB Γ.sc x = true) (hc : posOf Γ.g.cls x = some c) (hi : Γ.g.ini[c]? = some none) :
    PS X (.Raise (some (.Call (.Name x p1) [.Constant (.str m) j p2] [] p3)) none pos) (tS L p (exS ev (.raiseM c)) W) := by
  obtain ⟨c1, c2⟩ := C.gb.cls x c hc
  obtain ⟨B, newId, initId, bmB, F, q1, q2, q3, q4⟩ := C.gb.exo c c1 hi
  obtain ⟨g1, g2, _, _⟩ := gl_of C hg
  refine PS.imp (ps_raise (C.calm hh) tk (pmk_own F (C := L.clA c) (by rw [C.x0.K]; exact q1) (by rw [C.x0.mg]; exact c2) (by rw [C.x0.K]; exact q2) (raises_own (by rw [C.x0.K]; exact q3) (by rw [C.x0.K]; exact q4)) g1 g2)) fun D σ H ⟨pn, ρ, env, h0, R, er, pa, r⟩ => ?_
  exact r ρ H σ _ none (Ext.refl _ _) R er pn ⟨c1, rfl, fun f d e => by cases e⟩
theorem ps_raiseIM (C : CxOk L Γ n ev p X) (hh : Γ.hot = false) {x : Str} {e : Expr} {ce : CE} {k c f : Nat} {W : WX} {p1 p3 pos : Pos} (tk : Takes X W) (hg : globB Γ.sc x = true) (hc : posOf Γ.g.cls x = some c) (hi : Γ.g.ini[c]? = some (some f)) (hce : cE k Γ e = some ce)
    (he : PE X e (tM L p (VR L) (evE ev ce) W)) : PS X (.Raise (some (.Call (.Name x p1) [e] [] p3)) none pos) (tS L p (exS ev (.raiseI c f ce)) W) := by
  obtain ⟨c1, c2⟩ := C.gb.cls x c hc
  obtain ⟨T, xf, no⟩ := C.gb.exi c f c1 hi
  obtain ⟨g1, g2, _, _⟩ := gl_of C hg
  match n, C with
  | 0, C =>
    refine ⟨fun pins s σ H D I ⟨_, ρ, env, h0, _, _, _, r⟩ => ?_⟩
    have hl : ev.l = [] := C.lev
    simp only [exS, hl] at r
    exact r.elim
  | 1, C =>
    refine ⟨fun pins s σ H D I ⟨_, ρ, env, h0, _, _, _, r⟩ => ?_⟩
    have hl : ev.l = [mkCl L.pg []] := C.lev
    simp only [exS, hl] at r
    exact r.elim
  | m + 2, C =>
    refine PS.imp (ps_raise (C.calm hh) tk (pmk_ini (k := m) (C := L.clA c) (f := L.fld f) (by rw [C.x0.K]; exact T) (C.room hh) g1 (by rw [C.x0.mg]; exact c2) he g2 (fun es => star_of hce es _))) fun D σ H q => ?_
    have q : tS L p (fun env => liftE (evE ev ce env) env fun d h => .exc ⟨c, [(f, d)]⟩ env h) W D σ H := by
      have hl : ev.l = mkCl L.pg (tabs L.pg (m + 1)) :: mkCl L.pg (tabs L.pg m) :: tabs L.pg m := C.lev
      obtain ⟨pn, ρ, env, h0, R, er, pa, r⟩ := q
      simp only [exS, hl] at r
      exact ⟨pn, ρ, env, h0, R, er, pa, r⟩
    obtain ⟨pn, ρ, env, h0, R, er, pa, r⟩ := tS_lift (P := VR L) q
    refine ⟨pn, ρ, env, h0, R, er, pa, r.mono fun v H1 ⟨_, ρ1, env1, h1, d, R1, er1, pa1, rd, r1⟩ dx hn => ?_⟩
    have e1 : Ext ρ1 H1 ρ1 (upd H1 dx (.xd [(L.fld f, v)])) := ext_new hn
    refine r1 ρ1 _ σ _ (some dx) e1 (R1.side hn) (er1.mono e1) pn ⟨c1, rfl, fun f' d' e => ?_⟩
    simp only [List.lookup] at e
    split at e
    · next hf =>
      cases e
      have : f' = f := by simpa using hf
      subst this
      refine ⟨xf, no, dx, _, v, rfl, upd_same, ?_, rd.mono e1⟩
      simp [List.lookup]
    · cases e
/-! ### try -/
/-- an exception of the body, caught -/
structure Caught (X : Cx) (pins : List (Addr × Obj)) (B : Heap) (sI s3 : Shared) (a : Addr) (cls : Value) (d : Option Addr) (σ : L2.St) (H : Hp) : Prop where
  J : Inv X pins σ H sI
  nb : ∀ b o, sI.heap.get? b = some o → b ∉ frs X.stack → B.get? b = some o
  up : sI.heap.UpToSlots s3.heap
  fly : PySem.HandSPX.FlyingZ B (X.env :: X.outer) a (Zc cls d) s3.heap
  na : H a = none
  os : s3.os = sI.os
  ag : AllBare s3.gens
  nL : a ≠ X.env.locals
  nF : a ∉ X.fs
/-- the clauses, by what they make of a caught exception -/
def PHs (X : Cx) (hds : List ExceptHandler) (t : Ends → Value → Option Addr → L2.St → Hp → Prop) : Prop :=
  ∀ (pins : List (Addr × Obj)) (B : Heap) (sI s3 : Shared) (a : Addr) (cls : Value) (d : Option Addr) (σ : L2.St) (H : Hp) (D : Ends), Caught X pins B sI s3 a cls d σ H → t D cls d σ H →
    wpAny (model X.prog X.w) X.A (handleBy (.ref a) X.env hds) (SP X pins D) X.xe s3
theorem ps_tryG {body : List Stmt} {h0 : ExceptHandler} {hds : List ExceptHandler} {pos : Pos} {tb : WX → TS} {th : Ends → Value → Option Addr → L2.St → Hp → Prop} (S : StOk Γ X)
    (hb : ∀ (W : WX) (pn : List (Addr × Obj)) (xe : Value → Shared → Prop), Takes (X.tr pn xe) W → PassesOwn (model X.prog X.w) X.A X.env xe → PSs (X.tr pn xe) body (tb W))
    (hh : PHs X (h0 :: hds) th) : PS X (.Try body (h0 :: hds) [] [] pos) (fun D σ H => tb (fun cls d σ H => th D cls d σ H) D σ H) := by
  refine ⟨fun pins s σ H D I q => ?_⟩
  have ok := I.ok
  have frm : X.A.frames = some (X.env :: X.outer) := by rw [ok.frames, S.stk]
  have look : Takes (X.tr (X.pn ++ pins) (fun e s₁ => wpAny (model X.prog X.w) X.A (noteFrame e X.env) (fun _ s₂ => wpAny (model X.prog X.w) X.A (setFlight e none) (fun _ s₃ =>
      wpAny (model X.prog X.w) X.A (handleBy e X.env (h0 :: hds)) (SP X pins D) X.xe s₃) X.xe s₂) X.xe s₁)) (fun cls d σ H => th D cls d σ H) := by
    rintro u s' ⟨a, B, sI, pins', σ', H', cls, d, rfl, J', nb, up, sky, na, os, ag, w⟩
    have J : Inv X pins σ' H' sI := J'.ofTry ok
    have sky' : Sky B (X.env :: X.outer) a (Zc cls d) X.env.locals s'.heap := by
      rw [← S.stk]
      exact sky
    refine Sky.land Zc.steady frm S.fr sky' fun h3 fl up3 => ?_
    obtain ⟨oe, vs, he, hz, hd⟩ := fl.there
    have out : a ∉ frs (X.env :: X.outer) := fun hm => by
      obtain ⟨_, o', e', hnf⟩ := fl.2.2.1.mem hm
      rw [he] at e'
      cases e'
      exact hnf _ hd
    refine hh pins B sI { s' with heap := h3 } a cls d σ' H' D ⟨J, nb, up.trans up3, fl, na, os, ag, fun z => ?_, fun hm => ?_⟩ w
    · exact out (List.mem_filterMap.mpr ⟨X.env, List.mem_cons_self, by rw [S.fr, z]⟩)
    · obtain ⟨e, he, q⟩ := List.mem_filterMap.mp hm
      exact out (List.mem_filterMap.mpr ⟨e, List.mem_cons_of_mem _ he, q⟩)
  refine wpAny_Try_except (wpAny_mono ((hb _ (X.pn ++ pins) _ look PassesOwn.looking).run [] s σ H D (I.toTry _) q) (fun f s1 x => ?_) (fun e s1 x => x))
  match f, x with
  | .next, ⟨σ', H', J', z⟩ => exact wpAny_execs_nil ⟨σ', H', J'.ofTry ok, z⟩
  | .brk, ⟨σ', H', J', z⟩ => exact ⟨σ', H', J'.ofTry ok, z⟩
  | .cont, ⟨σ', H', J', z⟩ => exact ⟨σ', H', J'.ofTry ok, z⟩
  | .ret u, ⟨v, σ', H', J', r, z⟩ => exact ⟨v, σ', H', J'.ofTry ok, r, z⟩
/-- no clause is left -/
theorem phs_nil (S : StOk Γ X) {W : WX} (tk : Takes X W) : PHs X [] (fun _ cls d σ H => W cls d σ H) := by
  intro pins B sI s3 a cls d σ H D c w
  refine wpAny_handleBy_nil ?_
  obtain ⟨k1, k2, k3, oe, vs, T, oT, ts', he, hz, hd, h1, hr⟩ := id c.fly
  have up : wpAny (model X.prog X.w) X.A (setFlight (.ref a) X.env.frame) (fun _ s4 => wpAny (model X.prog X.w) X.A (throw (.ref a) : Sem Flow) (SP X pins D) X.xe s4) X.xe s3 := by
    rw [S.fr]
    refine PySem.HandSPX.setFlight_upZ c.fly fun h4 hh4 up4 => wpAny_throw (tk _ _ ?_)
    exact ⟨a, B, sI, pins, σ, H, cls, d, rfl, c.J, c.nb, c.up.trans up4, .inr (.inr (by rw [S.stk]; exact hh4)), c.na, c.os, c.ag, w⟩
  unfold PySem.passOn
  refine wpAny_bind (wpAny_field he hd h1 ?_)
  rw [if_neg (show ¬ ((Value.ref T == Value.none) = true) from by simp)]
  first
    | exact wpAny_bind (wpAny_pure (wpAny_bind up))
    | exact wpAny_bind up
/-- the test of a clause -/
theorem caught_test {pins : List (Addr × Obj)} {B : Heap} {sI s3 : Shared} {a : Addr} {cls : Value} {d : Option Addr} {σ : L2.St} {H : Hp} {x : Str} {q1 : Pos} {C : Value} {E : Value → Shared → Prop} {Q : Value → Shared → Prop} (c : Caught X pins B sI s3 a cls d σ H) (hg : Gl X x) (hm : X.mg x = some C)
    (hdb : (x == ("__debug__" : Str)) = false) (q : Q C s3) : wpAny (model X.prog X.w) (X.A.mark (some (.ref a))) (eval (.Name x q1) X.env) Q E s3 := by
  obtain ⟨oe, vs, he, hz, hd⟩ := c.fly.there
  have J3 : Inv X pins σ H { s3 with heap := s3.heap } := c.J.landed c.nb c.fly.1 c.up c.os c.ag
  exact ld_glob (X := X.suite a ((a, oe) :: (X.pn ++ pins))) (J3.suite he hd c.na c.nL c.nF) hg hm q hdb
theorem phs_cons {x : Str} {q1 pos : Pos} {C : Value} {b0 : Stmt} {suite : List Stmt} {hds : List ExceptHandler} {ts : Addr → Value → Option Addr → TS} {th : Ends → Value → Option Addr → L2.St → Hp → Prop} (hg : Gl X x) (hm : X.mg x = some C) (hdb : (x == ("__debug__" : Str)) = false)
    (hsu : ∀ (a : Addr) (oe : Obj) (cls : Value) (d : Option Addr) (pn : List (Addr × Obj)), Zc cls d oe → (∃ vs, oe.data = .fields vs) → PSs (X.suite a ((a, oe) :: pn)) (b0 :: suite) (ts a cls d)) (r : PHs X hds th) :
    PHs X (.ExceptHandler (some (.Name x q1)) none (b0 :: suite) pos :: hds) (fun D cls d σ H => ∃ b, PySem.W.exmOne X.K cls C = some b ∧ (b = true → ∀ a, H a = none → ts a cls d D σ H) ∧ (b = false → th D cls d σ H)) := by
  intro pins B sI s3 a cls d σ H D c ⟨b, e, yes, no⟩
  obtain ⟨oe, vs, he, hz, hd⟩ := c.fly.there
  have J3 : Inv X pins σ H { s3 with heap := s3.heap } := c.J.landed c.nb c.fly.1 c.up c.os c.ag
  refine wpAny_handleBy_cons (codeAny_handlers_test ?_) (by intro q; cases q)
  have LT : PySem.W.Looks (model X.prog X.w) s3.heap (typeOf (.ref a)) cls := fun A Q E s k q => wpAny_typeOf_ref (k _ _ he) (by rw [hz.1]; exact q)
  refine caught_test c hg hm hdb ((PySem.W.exm_one (M := model X.prog X.w) J3.kIn LT e).here ?_)
  cases b with
  | true =>
    refine codeAny_handlers_suite (PySem.HandSPX.lands_againZ c.fly fun h4 fl4 up4 => ?_)
    have J4 : Inv X pins σ H { s3 with heap := h4 } := c.J.landed c.nb fl4.1 (c.up.trans up4) c.os c.ag
    obtain ⟨oe4, vs4, he4, hz4, hd4⟩ := fl4.there
    have ok := c.J.ok
    refine wpAny_mono ((hsu a oe4 cls d (X.pn ++ pins) hz4 ⟨_, hd4⟩).run [] _ _ H _ (J4.suite he4 hd4 c.na c.nL c.nF) (yes rfl a c.na)) (fun f s6 z => ?_) (fun _ _ z => False.elim z)
    match f, z with
    | .next, ⟨σ6, H6, S6, z⟩ => exact ⟨_, _, S6.unsuite ok, z⟩
    | .brk, ⟨σ6, H6, S6, z⟩ => exact ⟨_, _, S6.unsuite ok, z⟩
    | .cont, ⟨σ6, H6, S6, z⟩ => exact ⟨_, _, S6.unsuite ok, z⟩
    | .ret u, ⟨v6, σ6, H6, S6, r6, z⟩ => exact ⟨_, _, _, S6.unsuite ok, r6, z⟩
  | false => exact r pins B sI s3 a cls d σ H D c (no rfl)
theorem phs_as {x nm : Str} {i : Nat} {q1 pos : Pos} {C : Value} {b0 : Stmt} {suite : List Stmt} {hds : List ExceptHandler} {ts : Addr → Value → Option Addr → TS} {th : Ends → Value → Option Addr → L2.St → Hp → Prop} (hg : Gl X x) (hm : X.mg x = some C) (hdb : (x == ("__debug__" : Str)) = false)
    (nd : X.N.Nodup) (hi : X.N[i]? = some nm) (hl : X.env.kindOf nm = some .local)
    (hsu : ∀ (a : Addr) (oe : Obj) (cls : Value) (d : Option Addr) (pn : List (Addr × Obj)), Zc cls d oe → (∃ vs, oe.data = .fields vs) → PSs (X.suite a ((a, oe) :: pn)) (b0 :: suite) (ts a cls d)) (r : PHs X hds th) :
    PHs X (.ExceptHandler (some (.Name x q1)) (some nm) (b0 :: suite) pos :: hds) (fun D cls d σ H => ∃ b, PySem.W.exmOne X.K cls C = some b ∧
      (b = true → ∀ a, H a = none → ts a cls d { nx := fun σ' H' => D.nx (σ'.set i none) H', rt := D.rt, bk := fun σ' H' => D.bk (σ'.set i none) H', ct := fun σ' H' => D.ct (σ'.set i none) H' } (σ.set i (some (.ref a))) H) ∧ (b = false → th D cls d σ H)) := by
  intro pins B sI s3 a cls d σ H D c ⟨b, e, yes, no⟩
  obtain ⟨oe, vs, he, hz, hd⟩ := c.fly.there
  have J3 : Inv X pins σ H { s3 with heap := s3.heap } := c.J.landed c.nb c.fly.1 c.up c.os c.ag
  refine wpAny_handleBy_cons (codeAny_handlers_test ?_) (by intro q; cases q)
  have LT : PySem.W.Looks (model X.prog X.w) s3.heap (typeOf (.ref a)) cls := fun A Q E s k q => wpAny_typeOf_ref (k _ _ he) (by rw [hz.1]; exact q)
  refine caught_test c hg hm hdb ((PySem.W.exm_one (M := model X.prog X.w) J3.kIn LT e).here ?_)
  cases b with
  | true =>
    refine codeAny_handlers_suite_as (PySem.HandSPX.lands_againZ c.fly fun h4 fl4 up4 => ?_)
    have J4 : Inv X pins σ H { s3 with heap := h4 } := c.J.landed c.nb fl4.1 (c.up.trans up4) c.os c.ag
    obtain ⟨oe4, vs4, he4, hz4, hd4⟩ := fl4.there
    have ok := c.J.ok
    refine store_ok (X := X.suite a ((a, oe4) :: (X.pn ++ pins))) (v := .ref a) (J4.suite he4 hd4 c.na c.nL c.nF) nd hi (.inl hl) rfl (fun s5 S5 => ?_) (.inr hl)
    refine wpAny_mono ((hsu a oe4 cls d (X.pn ++ pins) hz4 ⟨_, hd4⟩).run [] s5 _ H _ S5 (yes rfl a c.na)) (fun f s6 z => ?_) (fun _ _ z => False.elim z)
    have fin : ∀ {σ6 : L2.St} {H6 : Hp} {Q : Shared → Prop}, Inv (X.suite a ((a, oe4) :: (X.pn ++ pins))) [] σ6 H6 s6 → (∀ s7, Inv X pins (σ6.set i none) H6 s7 → Q s7) →
        wpAny (model X.prog X.w) X.A (do bindName X.env nm .none; unbindBehindTheSuite X.env nm pos) (fun _ s7 => Q s7) X.xe s6 := fun {σ6 H6 Q} S6 hq => gone_ok (S6.unsuite ok) nd hi hl hq
    match f, z with
    | .next, ⟨σ6, H6, S6, z⟩ => exact fin S6 fun s7 J7 => ⟨_, _, J7, z⟩
    | .brk, ⟨σ6, H6, S6, z⟩ => exact fin S6 fun s7 J7 => ⟨_, _, J7, z⟩
    | .cont, ⟨σ6, H6, S6, z⟩ => exact fin S6 fun s7 J7 => ⟨_, _, J7, z⟩
    | .ret u, ⟨v6, σ6, H6, S6, r6, z⟩ => exact fin S6 fun s7 J7 => ⟨_, _, _, J7, r6, z⟩
  | false => exact r pins B sI s3 a cls d σ H D c (no rfl)
end
end MX
namespace MX
open PySem PySem.Spec PyProof.Rows L2
section
variable {L : Lk} {Γ : Cn} {n : Nat} {ev : Ev} {p : Pn} {X : Cx}
theorem CxOk.tr (C : CxOk L Γ n ev p X) (hx : Γ.xas = none) (pn : List (Addr × Obj)) (xe : Value → Shared → Prop) : CxOk L Γ n ev p (X.tr pn xe) where
  x0 := ⟨C.x0.K, C.x0.mg, C.x0.un, C.x0.gd⟩
  gb := C.gb
  N := C.N
  nd := C.nd
  sc := C.sc
  pin := C.pin
  room := C.room
  calm := C.calm
  fn := C.fn
  pg := C.pg
  lev := C.lev
  fns := C.fns
  thk := fun x h => by
    obtain ⟨m, h1, h2⟩ := C.thk x h
    exact ⟨m, h1, fun pn' xe' W q1 q2 tk => h2 pn' xe' W q1 q2 tk⟩
  xas := fun x h => by
    rw [hx] at h
    cases h
  thks := C.thks
  lam := fun h => ⟨(C.lam h).tab⟩
/-- the suite of a clause without a name -/
theorem CxOk.suite (C : CxOk L Γ n ev p X) (x : XV) (a : Addr) (pn : List (Addr × Obj)) : CxOk L { Γ with hot := true, lam := false, thk := none, xas := none } n { ev with xc := some x } p (X.suite a pn) where
  x0 := ⟨C.x0.K, C.x0.mg, C.x0.un, C.x0.gd⟩
  gb := C.gb
  N := C.N
  nd := C.nd
  sc := C.sc
  pin := C.pin
  room := fun h => by cases h
  calm := fun h => by cases h
  fn := C.fn
  pg := C.pg
  lev := C.lev
  fns := C.fns
  thk := fun x h => by cases h
  xas := fun x h => by cases h
  thks := C.thks
  lam := fun h => by cases h
/-- err.f -/
theorem pe_field (C : CxOk L Γ n ev p X) {x : XV} {a : Addr} {oe : Obj} {cls : Value} {d : Option Addr} {pn : List (Addr × Obj)} {ρ0 : List Addr} {H0 : Hp} {nm : Str} {i f : Nat} {W : WX} {q1 q2 : Pos} (hz : Zc cls d oe) (hd : ∃ vs, oe.data = .fields vs) (xr : XRel L ρ0 H0 x cls d) (h1 : X.N[i]? = some nm)
    (h2 : Vis X.env.scope nm) (h3 : (nm == ("__debug__" : Str)) = false) (h4 : (nm == ("__classdict__" : Str)) = false) :
    PE (X.suite a ((a, oe) :: pn)) (.Attribute (.Name nm q1) (L.fld f) q2) (tM L ⟨(i, .ref a) :: p.pv, ρ0, H0⟩ (VR L) (fun _ => M.opt (x.fs.lookup f)) W) := by
  refine ⟨fun pins s σ H Q I ⟨pn1, ρ, env, h, R, er, pa, r⟩ => ?_⟩
  simp only [M.opt] at r
  cases hl : x.fs.lookup f with
  | none =>
    rw [hl] at r
    exact r.elim
  | some v =>
    rw [hl] at r
    obtain ⟨x1, x2, x3⟩ := xr
    obtain ⟨T, no, a', gs, v', e1, e2, e3, e4⟩ := x3 f v hl
    have he : PE (X.suite a ((a, oe) :: pn)) (.Name nm q1) (tVar i) := pe_var (X := X.suite a ((a, oe) :: pn)) h1 h2 h3 h4
    refine (pe_xf (X := X) (C := L.clA x.cls) (by rw [C.x0.K]; exact T) (by rw [C.x0.K]; exact no) hz hd he).run pins s σ H Q I ⟨.ref a, pn1 (i, .ref a) List.mem_cons_self, rfl, x2, a', gs, v', e1, pa.sta _ _ trivial e2, e3, r.ret R (e4.mono pa)⟩
theorem CxOk.suiteAs (C : CxOk L Γ n ev p X) {x : XV} {a : Addr} {oe : Obj} {cls : Value} {d : Option Addr} {pn : List (Addr × Obj)} {ρ0 : List Addr} {H0 : Hp} {nm : Str} {i : Nat} (hz : Zc cls d oe) (hd : ∃ vs, oe.data = .fields vs) (xr : XRel L ρ0 H0 x cls d) (h1 : X.N[i]? = some nm)
    (h2 : Vis X.env.scope nm) (h3 : (nm == ("__debug__" : Str)) = false) (h4 : (nm == ("__classdict__" : Str)) = false) :
    CxOk L { Γ with hot := true, lam := false, thk := none, xas := some nm, pin := i :: Γ.pin } n { ev with xc := some x } ⟨(i, .ref a) :: p.pv, ρ0, H0⟩ (X.suite a ((a, oe) :: pn)) where
  x0 := ⟨C.x0.K, C.x0.mg, C.x0.un, C.x0.gd⟩
  gb := C.gb
  N := C.N
  nd := C.nd
  sc := C.sc
  pin := by
    show i :: p.pv.map (·.1) = i :: Γ.pin
    rw [C.pin]
  room := fun h => by cases h
  calm := fun h => by cases h
  fn := C.fn
  pg := C.pg
  lev := C.lev
  fns := C.fns
  thk := fun x h => by cases h
  xas := fun y h => by
    cases h
    exact ⟨x, rfl, fun f W q1 q2 => pe_field C hz hd xr h1 h2 h3 h4⟩
  thks := C.thks
  lam := fun h => by cases h
/-! ### the clauses -/
def TH (L : Lk) (p : Pn) (ev : Ev) (hs : Hds) (W : WX) (D : Ends) (cls : Value) (d : Option Addr) (σ : L2.St) (H : Hp) : Prop :=
  Pins p σ ∧ ∃ ρ env h x, Rep L ρ h H ∧ ERel L.K ρ H env σ ∧ Past p ρ H ∧ XRel L ρ H x cls d ∧ resS L p ρ H (exH ev hs x env h) D W
theorem PHs.imp {hds : List ExceptHandler} {t t' : Ends → Value → Option Addr → L2.St → Hp → Prop} (h : PHs X hds t) (k : ∀ D cls d σ H, σ.length = X.N.length → t' D cls d σ H → t D cls d σ H) : PHs X hds t' :=
  fun pins B sI s3 a cls d σ H D c q => h pins B sI s3 a cls d σ H D c (k D cls d σ H c.J.len q)
def SndSs (L : Lk) (k : Nat) : Prop := ∀ (Γ : Cn) (n : Nat) (ev : Ev) (p : Pn) (X : Cx) (W : WX) (ss : List Stmt) (cs : CSs), CxOk L Γ n ev p X → StOk Γ X → Takes X W → cSs k Γ ss = some cs → PSs X ss (tS L p (exSs ev cs) W)
theorem hot_read {r : SR} {ρ : List Addr} {H : Hp} {D : Ends} {W W' : WX} (h : resS L p ρ H (match r with | .exc _ _ _ => .bad | r => r) D W) : resS L p ρ H r D W' := by
  cases r with
  | exc x env h' => exact h.elim
  | _ => exact h
theorem hds_ok {k : Nat} (ih : SndSs L k) (C : CxOk L Γ n ev p X) (S : StOk Γ X) {W : WX} (tk : Takes X W) : ∀ (hds : List ExceptHandler) (hs : Hds), cHd (cSs k) Γ hds = some hs → PHs X hds (TH L p ev hs W)
  | [], hs, h => by
    simp only [cHd] at h
    cases h
    exact PHs.imp (phs_nil S tk) fun D cls d σ H _ ⟨pn, ρ, env, h0, x, R, er, pa, xr, r⟩ => r ρ H σ cls d (Ext.refl _ _) R er pn xr
  | .ExceptHandler ty as body pos :: r, hs, h => by
    unfold cHd at h
    split at h
    · next e => cases e
    · next x q1 as' b suite q2 r' e =>
      cases e
      split at h
      · next hg =>
        obtain ⟨g1, g2, _, _⟩ := gl_of C hg
        simp only [Option.bind_eq_bind, Option.bind_eq_some_iff] at h
        obtain ⟨c, hc, r2, hr, h⟩ := h
        obtain ⟨c1, c2⟩ := C.gb.cls x c hc
        have pr := hds_ok ih C S tk r r2 hr
        split at h
        · simp only [Option.bind_eq_some_iff, Option.some.injEq] at h
          obtain ⟨s, hsu, rfl⟩ := h
          have P1 := phs_cons (pos := pos) (q1 := q1) (b0 := b) (suite := suite) g1 (by rw [C.x0.mg]; exact c2) g2 (ts := fun a cls d D σ H => ∃ x, tS L p (exSs { ev with xc := some x } s) (fun _ _ _ _ => False) D σ H)
            (fun a oe cls d pn hz hd => ⟨fun pins s1 σ H D I ⟨x, q⟩ => (ih _ _ _ _ _ _ _ _ (C.suite x a ((a, oe) :: pn)) ⟨S.stk, S.fr, fun z => by cases z⟩ takesN hsu).run pins s1 σ H D I q⟩) pr
          refine PHs.imp P1 fun D cls d σ H _ ⟨pn, ρ, env, h0, x, R, er, pa, xr, r⟩ => ?_
          obtain ⟨x1, x2, x3⟩ := id xr
          refine ⟨L.pg.sub x.cls c, by rw [C.x0.K, x2]; exact C.gb.sub _ _ x1 c1, fun hb a na => ?_, fun hb => ?_⟩
          · rw [← C.pg] at hb
            simp only [exH, hb] at r
            exact ⟨x, pn, ρ, env, h0, R, er, pa, hot_read r⟩
          · rw [← C.pg] at hb
            simp only [exH, hb] at r
            exact ⟨pn, ρ, env, h0, x, R, er, pa, xr, r⟩
        · next nm =>
          simp only [Option.bind_eq_some_iff] at h
          obtain ⟨i, hi, h⟩ := h
          split at h
          · next hl =>
            simp only [Option.bind_eq_some_iff, Option.some.injEq] at h
            obtain ⟨s, hsu, rfl⟩ := h
            obtain ⟨n1, n2, n3, n4, n5⟩ := store_of C hi
            have hb1 : okN nm = true := by
              unfold storeOf at hi
              split at hi
              · next hb _ =>
                simp only [Bool.and_eq_true] at hb
                exact hb.2
              · cases hi
            unfold okN at hb1
            simp only [Bool.and_eq_true, Bool.not_eq_true'] at hb1
            have vis : Vis X.env.scope nm := by
              rcases n2 with z | z
              · exact .inl z
              · exact .inr (.inl z)
            have P1 := phs_as (pos := pos) (q1 := q1) (b0 := b) (suite := suite) (nm := nm) (i := i) g1 (by rw [C.x0.mg]; exact c2) g2 (by rw [C.N]; exact C.nd) n1 (by show X.env.scope.names.lookup nm = _; rw [C.sc]; exact hl)
              (ts := fun a cls d D σ H => ∃ x ρ0 H0, XRel L ρ0 H0 x cls d ∧ tS L ⟨(i, .ref a) :: p.pv, ρ0, H0⟩ (exSs { ev with xc := some x } s) (fun _ _ _ _ => False) D σ H)
              (fun a oe cls d pn hz hd => ⟨fun pins s1 σ H D I ⟨x, ρ0, H0, xr, q⟩ => (ih _ _ _ _ _ _ _ _ (C.suiteAs (pn := pn) (a := a) hz hd xr n1 vis hb1.1.1 hb1.1.2) ⟨S.stk, S.fr, fun z => by cases z⟩ takesN hsu).run pins s1 σ H D I q⟩) pr
            refine PHs.imp P1 fun D cls d σ H hlen ⟨pn, ρ, env, h0, x, R, er, pa, xr, r⟩ => ?_
            obtain ⟨x1, x2, x3⟩ := id xr
            refine ⟨L.pg.sub x.cls c, by rw [C.x0.K, x2]; exact C.gb.sub _ _ x1 c1, fun hb a na => ?_, fun hb => ?_⟩
            · rw [← C.pg] at hb
              simp only [exH, hb] at r
              refine ⟨x, ρ, H, xr, fun q hq => ?_, ρ, env.set i none, h0, R, er.unk i _, Ext.refl _ _, ?_⟩
              · rcases List.mem_cons.mp hq with e | hq
                · rw [e]
                  exact List.getElem?_set_self (by rw [hlen]; exact (List.getElem?_eq_some_iff.mp n1).1)
                · exact pn.set n4 q hq
              · have back : ∀ {σ' : L2.St}, Pins ⟨(i, .ref a) :: p.pv, ρ, H⟩ σ' → Pins p (σ'.set i none) := fun {σ'} z => Pins.set (fun q hq => z q (List.mem_cons_of_mem _ hq)) n4
                cases e6 : exSs { ev with xc := some x } s (env.set i none) h0 with
                | nxt e h' =>
                  rw [e6] at r
                  exact fun ρ' H' σ' e1 R1 er1 pn1 => r ρ' H' (σ'.set i none) e1 R1 (er1.forget i) (back pn1)
                | brk e h' =>
                  rw [e6] at r
                  exact fun ρ' H' σ' e1 R1 er1 pn1 => r ρ' H' (σ'.set i none) e1 R1 (er1.forget i) (back pn1)
                | cnt e h' =>
                  rw [e6] at r
                  exact fun ρ' H' σ' e1 R1 er1 pn1 => r ρ' H' (σ'.set i none) e1 R1 (er1.forget i) (back pn1)
                | ret v h' =>
                  rw [e6] at r
                  exact r
                | exc y e h' =>
                  rw [e6] at r
                  exact r.elim
                | bad =>
                  rw [e6] at r
                  exact r.elim
            · rw [← C.pg] at hb
              simp only [exH, hb] at r
              exact ⟨pn, ρ, env, h0, x, R, er, pa, xr, r⟩
          · cases h
      · cases h
    · cases h
theorem ps_tryM {k : Nat} (ih : SndSs L k) (C : CxOk L Γ n ev p X) (S : StOk Γ X) (hx : Γ.xas = none) {W : WX} (tk : Takes X W) {body : List Stmt} {h0 : ExceptHandler} {hds : List ExceptHandler} {pos : Pos} {cb : CSs} {hs : Hds} (hb : cSs k Γ body = some cb) (hh : cHd (cSs k) Γ (h0 :: hds) = some hs) :
    PS X (.Try body (h0 :: hds) [] [] pos) (tS L p (exS ev (.tryS cb hs)) W) := by
  refine PS.imp (ps_tryG S (tb := fun W' => tS L p (exSs ev cb) W') (fun W' pn xe tk' po => ih _ _ _ _ _ _ _ _ (C.tr hx pn xe) ⟨S.stk, S.fr, fun _ => po⟩ tk' hb) (hds_ok ih C S tk _ _ hh)) fun D σ H ⟨pn, ρ, env, h1, R, er, pa, r⟩ => ?_
  refine ⟨pn, ρ, env, h1, R, er, pa, ?_⟩
  simp only [exS] at r
  cases e6 : exSs ev cb env h1 with
  | exc x e h' =>
    rw [e6] at r
    exact fun ρ' H' σ' cls d e1 R1 er1 pn1 xr => ⟨pn1, ρ', e, h', x, R1, er1, pa.trans e1, xr, r.later e1⟩
  | nxt e h' =>
    rw [e6] at r
    exact r
  | brk e h' =>
    rw [e6] at r
    exact r
  | cnt e h' =>
    rw [e6] at r
    exact r
  | ret v h' =>
    rw [e6] at r
    exact r
  | bad =>
    rw [e6] at r
    exact r
end
end MX
namespace MX
open PySem PySem.Spec PyProof.Rows L2
section
variable {L : Lk} {Γ : Cn} {n : Nat} {ev : Ev} {p : Pn} {X : Cx}
theorem fm_lt {α β : Type} {f : α → Option β} : ∀ {l : List α}, (l.any fun x => (f x).isNone) = true → (l.filterMap f).length < l.length
  | [], h => by cases h
  | x :: l, h => by
    simp only [List.any_cons, Bool.or_eq_true] at h
    cases e : f x with
    | none =>
      rw [List.filterMap_cons_none e, List.length_cons]
      exact Nat.lt_succ_of_le (List.length_filterMap_le _ _)
    | some y =>
      rw [List.filterMap_cons_some e, List.length_cons, List.length_cons]
      rcases h with h | h
      · rw [e] at h
        cases h
      · exact Nat.succ_lt_succ (fm_lt h)
theorem sw_none {env : PySem.Env} {ts : List Expr} {j : Nat} {q1 : Pos} {e : Expr} (hsc : env.scope = Γ.sc) (h : nparB Γ ts = true) : swappedStores [.Tuple ts j q1] e env = pure none := by
  cases e with
  | Tuple vs j2 q2 =>
    unfold swappedStores
    simp only
    have lt : (ts.filterMap fun | .Name id pos => if env.kindOf id == some .local && pos.line == (ts.head?.map (·.pos.line)).getD 0 then some id else none | _ => none).length < ts.length := by
      refine fm_lt ?_
      unfold nparB at h
      rw [List.any_eq_true] at h ⊢
      obtain ⟨t, h1, h2⟩ := h
      refine ⟨t, h1, ?_⟩
      cases t with
      | Name id pos =>
        have hk : env.kindOf id = Γ.sc.names.lookup id := by
          show env.scope.names.lookup id = _
          rw [hsc]
        simp only [Bool.not_eq_true', decide_eq_false_iff_not] at h2
        have : (env.kindOf id == some .local) = false := by
          rw [hk]
          simpa using h2
        simp [this]
      | _ => rfl
    split
    · rfl
    · split
      · rfl
      · rw [if_pos (by
          rw [Bool.or_eq_true]
          exact .inl (bne_iff_ne.mpr (Nat.ne_of_lt lt)))]
  | _ => rfl
theorem sw_some {env : PySem.Env} {x y : Str} {a b : Expr} {px py q1 q2 : Pos} {j j2 : Nat} (hk : env.scope.kind = .function) (hsc : env.scope = Γ.sc) (ha : ∀ e q, a ≠ .Starred e q) (hb : ∀ e q, b ≠ .Starred e q) (h : parB Γ x y px py a b = true) :
    swappedStores [.Tuple [.Name x px, .Name y py] j q1] (.Tuple [a, b] j2 q2) env = pure (some [x, y]) := by
  unfold parB at h
  simp only [Bool.and_eq_true, decide_eq_true_eq, Bool.not_eq_true', beq_eq_false_iff_ne] at h
  obtain ⟨⟨⟨⟨⟨h1, h2⟩, h3⟩, h4⟩, h5⟩, h6⟩ := h
  have kx : (env.kindOf x == some .local) = true := by
    show (env.scope.names.lookup x == some .local) = true
    rw [hsc, h1]
    rfl
  have ky : (env.kindOf y == some .local) = true := by
    show (env.scope.names.lookup y == some .local) = true
    rw [hsc, h2]
    rfl
  have hbk : (env.blockKind != .function) = false := by
    unfold Env.blockKind
    rw [hk]
    rfl
  have st : ([a, b].any fun | .Starred .. => true | _ => false) = false := by
    have one : ∀ {e : Expr}, (∀ e' q, e ≠ .Starred e' q) → (match e with | .Starred .. => true | _ => false) = false := fun {e} he => by
      cases e <;> first | rfl | exact absurd rfl (he _ _)
    simp only [List.any_cons, List.any_nil, one ha, one hb, Bool.or_false]
  have lx : (px.line == ((([Expr.Name x px, Expr.Name y py].head?).map (·.pos.line)).getD 0)) = true := by
    show (px.line == px.line) = true
    simp
  have ly : (py.line == ((([Expr.Name x px, Expr.Name y py].head?).map (·.pos.line)).getD 0)) = true := by
    show (py.line == px.line) = true
    rw [beq_iff_eq]
    exact (beq_iff_eq.mp h3).symm
  have nm : ([Expr.Name x px, Expr.Name y py].filterMap fun | .Name id pos => if env.kindOf id == some .local && pos.line == ((([Expr.Name x px, Expr.Name y py].head?).map (·.pos.line)).getD 0) then some id else none | _ => none) = [x, y] := by
    rw [List.filterMap_cons, List.filterMap_cons, List.filterMap_nil]
    simp only [kx, ky, lx, ly, Bool.and_self, if_true]
  have du : ([x, y].eraseDups.length != [x, y].length) = false := by
    have : (y == x) = false := by
      rw [beq_eq_false_iff_ne]
      exact fun z => h4 z.symm
    simp [List.eraseDups_cons, this]
  unfold swappedStores
  refine (if_neg (fun z => ?_)).trans ((if_neg (fun z => ?_)).trans ((if_neg (fun z => ?_)).trans ((if_neg (fun z => ?_)).trans ?_)))
  · rw [hbk] at z
    cases z
  · have z' := st.symm.trans z
    cases z'
  · have z' : ([x, y].length != 2 || ([x, y].eraseDups.length != [x, y].length)) = true := by
      rw [← nm]
      exact z
    rw [du] at z'
    cases z'
  · have z' := h5.symm.trans z
    cases z'
  · show (if ([a, b].all (constantsAlone 8)) = true then _ else _) = _
    rw [h6]
    show pure (some _) = _
    exact congrArg (fun l => (pure (some l) : Sem (Option (List Str)))) nm
theorem posOf_inj {ys : List Str} (nd : ys.Nodup) {x y : Str} {i : Nat} (h1 : ys[i]? = some x) (h2 : ys[i]? = some y) : x = y := by
  rw [h1] at h2
  exact Option.some.inj h2
end
end MX
namespace MX
open PySem PySem.Spec PyProof.Rows L2
section
variable {L : Lk} {Γ : Cn} {n : Nat} {ev : Ev} {p : Pn} {X : Cx}
theorem noStar {k : Nat} {e : Expr} {ce : CE} (h : cE k Γ e = some ce) : ∀ e' q, e ≠ .Starred e' q := by
  rintro e' q rfl
  cases k with
  | zero => cases h
  | succ k => cases h
/-- name = e, e no comprehension -/
theorem name_ok (C : CxOk L Γ n ev p X) {W : WX} {x : Str} {i k : Nat} {q1 pos : Pos} {e : Expr} {ce : CE} (hi : storeOf Γ x = some i) (he : PE X e (tM L p (VR L) (evE ev ce) W)) (hs : swapsWith e (some (.Name x q1)) pos.line X.env = pure false) :
    PS X (.Assign [.Name x q1] e pos) (tS L p (exS ev (.asg (.name i) ce)) W) := by
  obtain ⟨h1, h2, h3, h4, _⟩ := store_of C hi
  exact PS.imp (ps_set (by rw [C.N]; exact C.nd) h1 h2 he hs h3) fun D σ H q => asgN_read h4 q
theorem lc_ok (C : CxOk L Γ n ev p X) {W : WX} (tk : Takes X W) {x : Str} {i k : Nat} {q1 q2 pos : Pos} {elt : Expr} {gs : List Comprehension} {scope : Scope} {ce : CE} (hi : storeOf Γ x = some i) (he : cE k Γ (.ListComp elt gs scope q2) = some ce) :
    PS X (.Assign [.Name x q1] (.ListComp elt gs scope q2) pos) (tS L p (exS ev (.asg (.name i) ce)) W) := by
  have hsw : swapsWith (.ListComp elt gs scope q2) (some (.Name x q1)) pos.line X.env = pure (X.env.blockKind == .function && X.env.kindOf x == some .local && q1.line == q2.line && !(scope.names.any fun (n, k) => n == x && (k == .local || k == .cell))) := rfl
  cases hb : (X.env.blockKind == .function && X.env.kindOf x == some .local && q1.line == q2.line && !(scope.names.any fun (n, k) => n == x && (k == .local || k == .cell))) with
  | false => exact name_ok (k := k) C hi (snd_e k _ _ _ _ _ _ _ _ C tk he).1 (by rw [hsw, hb])
  | true =>
    cases k with
    | zero => cases he
    | succ k =>
      obtain ⟨tg, iter, ifs, elt', tg', it', c, rfl, rfl, hh, h1, h2, h3, h4, h5, h6⟩ := (comp_parts (snd_e k) C tk he).ex
      obtain ⟨n1, n2, n3, n4, _⟩ := store_of C hi
      have hb' := hb
      simp only [Bool.and_eq_true] at hb'
      have hl : X.env.scope.names.lookup x = some .local := by
        have := hb'.1.1.2
        show X.env.kindOf x = _
        simpa using this
      exact PS.imp (ps_compM C hh h1 h2 h3 h4 h5 h6 n1 hl (by rw [hsw, hb])) fun D σ H q => asgN_read n4 q
theorem tgt_ok (C : CxOk L Γ n ev p X) {W : WX} {ts : List Expr} {j k : Nat} {q1 pos : Pos} {e : Expr} {ce : CE} {t : Tg} (ht : cTg Γ k (.Tuple ts j q1) = some t) (he : PE X e (tM L p (VR L) (evE ev ce) W)) (hs : swapsWithSole [.Tuple ts j q1] e pos.line X.env = pure false)
    (hw : swappedStores [.Tuple ts j q1] e X.env = pure none) : PS X (.Assign [.Tuple ts j q1] e pos) (tS L p (exS ev (.asg t ce)) W) :=
  PS.imp (ps_asg he ((pg_tgts C k).1 ht) hs hw) fun D σ H q => asg_read q
theorem asg_ok (C : CxOk L Γ n ev p X) (S : StOk Γ X) {W : WX} (tk : Takes X W) {k : Nat} {t e : Expr} {cs : CS} {pos : Pos} (h : cAsg k Γ t e = some cs) : PS X (.Assign [t] e pos) (tS L p (exS ev cs) W) := by
  have one : ∀ {e ce}, cE k Γ e = some ce → PE X e (tM L p (VR L) (evE ev ce) W) := fun {e ce} he => (snd_e k _ _ _ _ _ _ _ _ C tk he).1
  have pa : ∀ {es : List Expr} {ces : CEs}, cL (cE k Γ) es = some ces → PA X es (tM L p (VRs L) (evEs ev ces) W) := fun {es ces} hc => pa_list (fun e ce he => one he) hc
  unfold cAsg at h
  split at h
  · next x q1 =>
    split at h
    · cases h
    · cases h
    · next elt gs scope q2 =>
      simp only [Option.bind_eq_bind, Option.bind_eq_some_iff, Option.some.injEq] at h
      obtain ⟨i, hi, e', he, rfl⟩ := h
      exact lc_ok C tk hi he
    · next h1 h2 h3 =>
      simp only [Option.bind_eq_bind, Option.bind_eq_some_iff, Option.some.injEq] at h
      obtain ⟨i, hi, e', he, rfl⟩ := h
      refine name_ok (k := k) C hi (one he) ?_
      cases e <;> first | rfl | exact (h1 _ _ _ _ rfl).elim | exact (h2 _ _ _ _ _ rfl).elim | exact (h3 _ _ _ _ rfl).elim
  · next ts j q1 =>
    split at h
    · cases h
    · next hot =>
      have hh : Γ.hot = false := by simpa using hot
      split at h
      · next vs j2 q2 =>
        have gen : ∀ {cs : CS}, nparB Γ ts = true → (do let t' ← cTg Γ k (.Tuple ts j q1); let e' ← cE k Γ (.Tuple vs j2 q2); some (CS.asg t' e')) = some cs → PS X (.Assign [.Tuple ts j q1] (.Tuple vs j2 q2) pos) (tS L p (exS ev cs) W) := fun {cs} hn h => by
          simp only [Option.bind_eq_bind, Option.bind_eq_some_iff, Option.some.injEq] at h
          obtain ⟨t', ht, e', he, rfl⟩ := h
          exact tgt_ok C ht (one he) (by rfl) (sw_none C.sc hn)
        split at h
        · next x px y py a b =>
          split at h
          · next hp =>
            simp only [Option.bind_eq_bind, Option.bind_eq_some_iff, Option.some.injEq] at h
            obtain ⟨i, hi, i2, hj, es, hes, rfl⟩ := h
            obtain ⟨ca, r1, ha, hr, rfl⟩ := cL_cons hes
            obtain ⟨cb, r2, hb, hr2, rfl⟩ := cL_cons hr
            cases hr2
            obtain ⟨n1, n2, n3, n4, _⟩ := store_of C hi
            obtain ⟨m1, m2, m3, m4, _⟩ := store_of C hj
            have hp' := hp
            unfold parB at hp'
            simp only [Bool.and_eq_true, decide_eq_true_eq, Bool.not_eq_true', beq_eq_false_iff_ne] at hp'
            have hij : i ≠ i2 := by
              rintro rfl
              rw [n1] at m1
              exact hp'.1.1.2 (Option.some.inj m1)
            refine ⟨fun pins s σ H D I q => ?_⟩
            exact (ps_par (C.calm hh) (by rw [C.N]; exact C.nd) n1 m1 hij (by rw [C.sc]; exact hp'.1.1.1.1.1) (by rw [C.sc]; exact hp'.1.1.1.1.2) (pa hes) (sw_some I.ok.kind C.sc (noStar ha) (noStar hb) hp) (by rfl)).run pins s σ H D I (par_read n4 m4 q)
          · split at h
            · next hn => exact gen hn h
            · cases h
        · split at h
          · next hn => exact gen hn h
          · cases h
      · simp only [Option.bind_eq_bind, Option.bind_eq_some_iff, Option.some.injEq] at h
        obtain ⟨t', ht, e', he, rfl⟩ := h
        exact tgt_ok C ht (one he) (by rfl) (by rfl)
      · simp only [Option.bind_eq_bind, Option.bind_eq_some_iff, Option.some.injEq] at h
        obtain ⟨t', ht, e', he, rfl⟩ := h
        exact tgt_ok C ht (one he) (by rfl) (by rfl)
      · simp only [Option.bind_eq_bind, Option.bind_eq_some_iff, Option.some.injEq] at h
        obtain ⟨t', ht, e', he, rfl⟩ := h
        exact tgt_ok C ht (one he) (by rfl) (by rfl)
      · cases h
  · next o i q1 =>
    split at h
    · cases h
    · split at h
      · next hsl =>
        split at h
        · cases h
        · cases h
        · next h1 h2 =>
          simp only [Option.bind_eq_bind, Option.bind_eq_some_iff, Option.some.injEq] at h
          obtain ⟨e', he, o', ho, i', hi, rfl⟩ := h
          refine PS.imp (ps_asg (one he) (pg_sub (one ho) (one hi) (pset_M C.x0) (fun v => ?_)) ?_ (by rfl) (by rfl)) fun D σ H q => sets_read q
          · cases i <;> first | rfl | cases hsl
          · cases e <;> first | rfl | exact (h1 _ _ _ _ rfl).elim | exact (h2 _ _ _ _ _ rfl).elim
      · cases h
  · cases h
end
end MX
namespace MX
open PySem PySem.Spec PyProof.Rows L2
section
variable {L : Lk} {Γ : Cn} {n : Nat} {ev : Ev} {p : Pn} {X : Cx}
theorem raise_okM (C : CxOk L Γ n ev p X) {W : WX} (tk : Takes X W) {k : Nat} {e : Expr} {cs : CS} {pos : Pos} (h : cRaise k Γ e = some cs) : PS X (.Raise (some e) none pos) (tS L p (exS ev cs) W) := by
  unfold cRaise at h
  split at h
  · cases h
  · next hot =>
    have hh : Γ.hot = false := by simpa using hot
    split at h
    · next x q1 args q2 =>
      split at h
      · next hg =>
        simp only [Option.bind_eq_bind, Option.bind_eq_some_iff] at h
        obtain ⟨c, hc, h⟩ := h
        split at h
        · next hi =>
          split at h
          · cases h
            exact ps_raiseMM C hh tk hg hc hi
          · cases h
        · next f hi =>
          split at h
          · next a =>
            cases ha : cE k Γ a with
            | none =>
              rw [ha] at h
              cases h
            | some ca =>
              rw [ha] at h
              cases h
              exact ps_raiseIM C hh tk hg hc hi ha (snd_e k _ _ _ _ _ _ _ _ C tk ha).1
          · cases h
        · cases h
      · cases h
    · cases h
theorem snd_s : ∀ k : Nat, (∀ (Γ : Cn) (n : Nat) (ev : Ev) (p : Pn) (X : Cx) (W : WX) (s : Stmt) (cs : CS), CxOk L Γ n ev p X → StOk Γ X → Takes X W → cS k Γ s = some cs → PS X s (tS L p (exS ev cs) W)) ∧ SndSs L k
  | 0 => ⟨fun Γ n ev p X W s cs C S tk h => by (simp only [cS] at h; cases h), fun Γ n ev p X W s cs C S tk h => by (simp only [cSs] at h; cases h)⟩
  | k + 1 => by
    obtain ⟨ih1, ih2⟩ := snd_s k
    refine ⟨fun Γ n ev p X W s cs C S tk h => ?_, fun Γ n ev p X W ss cs C S tk h => ?_⟩
    · have one : ∀ {e ce}, cE k Γ e = some ce → Snd L ev p X W e ce := fun {e ce} he => snd_e k _ _ _ _ _ _ _ _ C tk he
      have sub : ∀ {b cb}, cSs k Γ b = some cb → PSs X b (tS L p (exSs ev cb) W) := fun {b cb} hb => ih2 _ _ _ _ _ _ _ _ C S tk hb
      cases s with
      | Return v pos =>
        simp only [cS] at h
        split at h
        · next e =>
          cases he : cE k Γ e with
          | none =>
            rw [he] at h
            cases h
          | some ce =>
            rw [he] at h
            cases h
            exact ps_retM (one he).1
        · cases h
          exact PS.imp ps_retN fun D σ H ⟨pn, ρ, env, h0, R, er, pa, r⟩ => r ρ H .non (Ext.refl _ _) R .non
      | Expr e pos =>
        simp only [cS] at h
        split at h
        · cases h
        · cases h
        · cases h
        · next h1 h2 h3 =>
          cases he : cE k Γ e with
          | none =>
            rw [he] at h
            cases h
          | some ce =>
            rw [he] at h
            cases h
            refine ps_exprM (one he).1 ?_
            cases e <;> first | rfl | exact (h1 _ _ _ _ rfl).elim | exact (h2 _ _ _ _ rfl).elim | exact (h3 _ _ _ _ _ rfl).elim
      | Assign ts e pos =>
        simp only [cS] at h
        split at h
        · exact asg_ok C S tk h
        · cases h
      | If c a b pos =>
        simp only [cS, Option.bind_eq_bind, Option.bind_eq_some_iff, Option.some.injEq] at h
        obtain ⟨c', hc, a', ha, b', hb, rfl⟩ := h
        exact ps_ifM (one hc).2 (sub ha) (sub hb)
      | For t it body orelse pos =>
        simp only [cS] at h
        split at h
        · cases h
        · next hot =>
          have hh : Γ.hot = false := by simpa using hot
          split at h
          · split at h
            · next hs =>
              simp only [Option.bind_eq_bind, Option.bind_eq_some_iff, Option.some.injEq] at h
              obtain ⟨t', ht, it', hi, b', hb, rfl⟩ := h
              exact ps_forM (S.po hh) (C.calm hh) hs (iter_ok (snd_e k) C tk hi) ((pg_tgts C k).1 ht) (sub hb)
            · cases h
          · cases h
      | While c body orelse pos =>
        simp only [cS] at h
        split at h
        · cases h
        · next hot =>
          have hh : Γ.hot = false := by simpa using hot
          split at h
          · simp only [Option.bind_eq_bind, Option.bind_eq_some_iff, Option.some.injEq] at h
            obtain ⟨c', hc, b', hb, rfl⟩ := h
            exact ps_whileM (S.po hh) (one hc).2 (sub hb)
          · cases h
      | Raise e c pos =>
        simp only [cS] at h
        split at h
        · exact raise_okM C tk h
        · cases h
      | Try body hs orelse fin pos =>
        simp only [cS] at h
        split at h
        · cases h
        · next hot =>
          have hx : Γ.xas = none := by
            simp only [Bool.or_eq_true, not_or, Bool.not_eq_true, Option.isSome_eq_false_iff, Option.isNone_iff_eq_none] at hot
            exact hot.2
          split at h
          · simp only [Option.bind_eq_bind, Option.bind_eq_some_iff, Option.some.injEq] at h
            obtain ⟨b', hb, hs', hh, rfl⟩ := h
            exact ps_tryM ih2 C S hx tk hb hh
          · cases h
      | Pass pos =>
        simp only [cS] at h
        cases h
        exact PS.imp ps_pass fun D σ H ⟨pn, ρ, env, h0, R, er, pa, r⟩ => r.nxt R er pn
      | Break pos =>
        simp only [cS] at h
        cases h
        exact PS.imp ps_break fun D σ H ⟨pn, ρ, env, h0, R, er, pa, r⟩ => r ρ H σ (Ext.refl _ _) R er pn
      | Continue pos =>
        simp only [cS] at h
        cases h
        exact PS.imp ps_continue fun D σ H ⟨pn, ρ, env, h0, R, er, pa, r⟩ => r ρ H σ (Ext.refl _ _) R er pn
      | _ =>
        simp only [cS] at h
        cases h
    · cases ss with
      | nil =>
        simp only [cSs] at h
        cases h
        exact PSs.imp pss_nil fun D σ H ⟨pn, ρ, env, h0, R, er, pa, r⟩ => r.nxt R er pn
      | cons s ss =>
        simp only [cSs, Option.bind_eq_bind, Option.bind_eq_some_iff, Option.some.injEq] at h
        obtain ⟨a, ha, b, hb, rfl⟩ := h
        refine PSs.imp (pss_cons (ih1 _ _ _ _ _ _ _ _ C S tk ha) (ih2 _ _ _ _ _ _ _ _ C S tk hb)) fun D σ H ⟨pn, ρ, env, h0, R, er, pa, r⟩ => ?_
        refine ⟨pn, ρ, env, h0, R, er, pa, ?_⟩
        simp only [exSs] at r
        cases e6 : exS ev a env h0 with
        | nxt e h' =>
          rw [e6] at r
          exact fun ρ' H' σ' e1 R1 er1 pn1 => ⟨pn1, ρ', e, h', R1, er1, pa.trans e1, r.later e1⟩
        | exc x e h' =>
          rw [e6] at r
          exact r
        | brk e h' =>
          rw [e6] at r
          exact r
        | cnt e h' =>
          rw [e6] at r
          exact r
        | ret v h' =>
          rw [e6] at r
          exact r
        | bad =>
          rw [e6] at r
          exact r
end
end MX
namespace MX
open PySem PySem.Spec PyProof.Rows L2
/-- a def of the module -/
structure DefOk (L : Lk) (g : Gb) (base : Heap) (i : Nat) (x : Str) : Prop where
  ex : ∃ (a : Addr) (params : Arguments) (body : List Stmt) (scope : Scope) (dV kV doc pm cdv ct oc : Value) (an od : Option Addr) (osl : Array (Option Value)) (N ps : List Str) (fuel : Nat) (fd : FD) (lamf : Bool),
    L.mg x = some (.ref a) ∧ L.K.lookup a = some ⟨oc, od, .func (PySem.W.fnOf x x params body scope dV kV doc pm an cdv ct), osl⟩ ∧ PySem.W.codeIn L.K cdv x = true ∧ PySem.W.keepIn L.K (.ref a) = true ∧
    Binds L.K (PySem.W.fnOf x x params body scope dV kV doc pm an cdv ct) ps [] ∧ FnScope N ps scope ∧ N.Nodup ∧ L.pg.fns[i]? = some fd ∧ fd.np = ps.length ∧ fd.ns = N.length ∧
    (fd.thk = false → cSs fuel { g := g, N := N, sc := scope, lam := lamf } body = some fd.body) ∧
    (fd.thk = true → ∃ a', ps = [a'] ∧ N[0]? = some a' ∧ Vis scope a' ∧ (a' == ("__debug__" : Str)) = false ∧ (a' == ("__classdict__" : Str)) = false ∧ cSs fuel { g := g, N := N, sc := scope, thk := some a', pin := [0], lam := lamf } body = some fd.body) ∧
    (x ∈ g.thks → fd.thk = true) ∧
    (lamf = true → ∃ c P, LamX.TabB base L.mg c P ∧ cdv = .ref c ∧ (P, (x ++ ".<locals>.") ++ "<lambda>") ∈ L.T ∧ ∀ q ∈ L.T, q.1 = P → q.2 = (x ++ ".<locals>.") ++ "<lambda>")
theorem start_rel {K : PySem.W.Frag} {ρ : List Addr} {H : Hp} {ds : List D} {vs : List V} {N : List Str} (r : VRels K ρ H ds vs) (h : vs.length ≤ N.length) : ERel K ρ H (ds.map some ++ List.replicate (N.length - ds.length) none) (L2.start N vs) := by
  have hl := r.length
  unfold L2.start
  refine ⟨by simp [hl], fun i d e => ?_⟩
  by_cases hi : i < ds.length
  · rw [List.getElem?_append_left (by simpa using hi), List.getElem?_map] at e
    cases e2 : ds[i]? with
    | none =>
      rw [e2] at e
      cases e
    | some d' =>
      rw [e2] at e
      simp only [Option.map_some, Option.some.injEq] at e
      subst e
      obtain ⟨v, e3, rv⟩ := r.get e2
      refine ⟨v, ?_, rv⟩
      rw [List.getElem?_append_left (by rw [List.length_map, ← hl]; exact hi), List.getElem?_map, e3]
      rfl
  · rw [List.getElem?_append_right (by simpa using hi), List.getElem?_replicate] at e
    split at e <;> cases e
section
variable {L : Lk} {g : Gb} {P : Program} {w : World} {base : Heap}
theorem cx_lam {lamf : Bool} {x : Str} {cdv : Value} {X : Cx} (hl : lamf = true → ∃ c P, LamX.TabB base L.mg c P ∧ cdv = .ref c ∧ (P, (x ++ ".<locals>.") ++ "<lambda>") ∈ L.T ∧ ∀ q ∈ L.T, q.1 = P → q.2 = (x ++ ".<locals>.") ++ "<lambda>")
    (h1 : X.base = base) (h2 : X.mg = L.mg) (h3 : X.env.code = cdv) (h4 : X.env.qual = x ++ ".<locals>.") : lamf = true → LamOk L X := fun h => by
  obtain ⟨c, P, TB, e, m, u⟩ := hl h
  exact ⟨c, P, by rw [h1, h2]; exact TB, by rw [h3]; exact e, by rw [h4]; exact m, by rw [h4]; exact u⟩
theorem fns_ok (G : GbOk L g) (D : ∀ i x, posOf g.fns x = some i → DefOk L g base i x) : ∀ m i x, posOf g.fns x = some i → FnS L P w base m i x ∧ (x ∈ g.thks → ThkS L P w base m i x) := by
  intro m
  induction m using Nat.strongRecOn with
  | ind m ih =>
    intro i x hx
    obtain ⟨a, params, body, scope, dV, kV, doc, pm, cdv, ct, oc, an, od, osl, N, ps, fuel, fd, lamf, h1, h2, h3, h4, h5, h6, h7, h8, h9, h10, h11, h12, h13, h14⟩ := (D i x hx).ex
    have below : ∀ k m', k + m' + 1 = m → ∀ i x, posOf g.fns x = some i → FnS L P w base m' i x := fun k m' e i x hx => (ih m' (by omega) i x hx).1
    have belowT : ∀ k m', k + m' + 1 = m → ∀ i x, posOf g.fns x = some i → x ∈ g.thks → ThkS L P w base m' i x := fun k m' e i x hx ht => (ih m' (by omega) i x hx).2 ht
    have lenN : ps.length ≤ N.length := by
      have := congrArg List.length h6.pre
      rw [List.length_take] at this
      omega
    refine ⟨⟨a, _, ps, h1, h4, h5, ?_, fun fd' e => by rw [h8] at e; cases e; exact h9⟩, fun ht => ?_⟩
    · refine fnM_of (N := N) h2 h3 h6 (fun vs H Q E q => q.1) fun A outer s H vs Q E hr hg sp => ?_
      obtain ⟨hl, ρ, h, ds, R, rds, r⟩ := sp
      simp only [mkCl, h8] at r
      split at r
      · next hc =>
        have hS : StOk (⟨g, N, scope, [], none, none, false, lamf, fun _ => true⟩ : Cn) (cxOf (L2.CX P w) P w L.K L.mg base N x scope a cdv A outer s H E) := ⟨rfl, rfl, fun _ => passes_of rfl⟩
        have hC : CxOk L (⟨g, N, scope, [], none, none, false, lamf, fun _ => true⟩ : Cn) m ⟨L.pg, tabs L.pg m, none, none⟩ Pn.free (cxOf (L2.CX P w) P w L.K L.mg base N x scope a cdv A outer s H E) := {
          x0 := ⟨rfl, rfl, by
            have := hr.un
            show (A.deeper (envOfC x scope s.heap.objs.size a cdv)).units + 200 < cLine
            omega, hg⟩
          gb := G
          N := rfl
          nd := h7
          sc := rfl
          pin := rfl
          room := fun _ => hr
          calm := fun _ => rfl
          fn := fun _ _ => rfl
          pg := rfl
          lev := rfl
          fns := below
          thks := belowT
          thk := fun _ z => by cases z
          xas := fun _ z => by cases z
          lam := cx_lam h14 rfl rfl rfl rfl }
        refine ⟨_, (snd_s fuel).2 _ _ _ _ _ _ _ _ hC hS (takes_of rfl rfl rfl rfl) (h11 hc.1), Pins.free _, ρ, ds.map some ++ List.replicate (fd.ns - ds.length) none, h, R, ?_, Past.free _ _, res_ret r⟩
        rw [h10]
        exact start_rel rds (by rw [hl]; exact lenN)
      · exact r.elim
    · have hthk := h13 ht
      obtain ⟨a', e1, e2, e3, e4, e5, e6⟩ := h12 hthk
      subst e1
      refine ⟨a', a, N, params, body, scope, dV, kV, doc, pm, cdv, ct, oc, an, od, osl, h1, h2, h3, h5, h6, e2, e3, e4, e5, fun fd' e => by rw [h8] at e; cases e; exact h10, ?_⟩
      intro A outer s H E f ρ0 H0 m0 fd' hr hg hfd act _
      rw [h8] at hfd
      cases hfd
      have hS : StOk (⟨g, N, scope, [0], some a', none, false, lamf, fun _ => true⟩ : Cn) (cxOf (L2.CX P w) P w L.K L.mg base N x scope a cdv A outer s H E) := ⟨rfl, rfl, fun _ => passes_of rfl⟩
      have hC : CxOk L (⟨g, N, scope, [0], some a', none, false, lamf, fun _ => true⟩ : Cn) m ⟨L.pg, tabs L.pg m, some m0, none⟩ ⟨[(0, .ref f)], ρ0, H0⟩ (cxOf (L2.CX P w) P w L.K L.mg base N x scope a cdv A outer s H E) := {
        x0 := ⟨rfl, rfl, by
          have := hr.un
          show (A.deeper (envOfC x scope s.heap.objs.size a cdv)).units + 200 < cLine
          omega, hg⟩
        gb := G
        N := rfl
        nd := h7
        sc := rfl
        pin := rfl
        room := fun _ => hr
        calm := fun _ => rfl
        fn := fun _ _ => rfl
        pg := rfl
        lev := rfl
        fns := below
        thks := belowT
        thk := fun y z => by
          cases z
          exact ⟨m0, rfl, fun pn xe W q1 q2 tk => act pn xe W q1 q2 tk⟩
        xas := fun _ z => by cases z
        lam := cx_lam h14 rfl rfl rfl rfl }
      exact (snd_s fuel).2 _ _ _ _ _ _ _ _ hC hS (takes_of rfl rfl rfl rfl) e6
end
end MX
namespace MX
open PySem PySem.Spec PyProof.Rows L2
/-! ### the end of a law's row -/
section
variable {P : Program} {w : World} {K : PySem.W.Frag} {mg mb : Str → Option Value} {k : Nat} {fa a : Addr} {cs : List (Addr × Addr)} {fd : FuncData} {ps : List Str} {sp : Sp} {s1 : Shared} {vs : List Value} {ns : List Int}
/-- what stands ahead of the law's call -/
structure Ahead (K : PySem.W.Frag) (mg mb : Str → Option Value) (cs : List (Addr × Addr)) (a : Addr) (s1 : Shared) (vs : List Value) (ns : List Int) : Prop where
  kin : K.In s1.heap
  nsm : s1.heap.Ns mainGlobals mg
  nsb : s1.heap.Ns builtinsNs mb
  boot : ∀ x : Str, x ≠ "__name__" → mb x = bootBuiltins x
  lim : s1.heap.NoLimit
  gens : s1.gens = #[]
  tab : ∀ p ∈ cs, s1.heap.get? p.2 = some { cls := .none, data := .fields #[] }
  tabK : ∀ p ∈ cs, K.lookup p.2 = none
  code : ∀ p ∈ cs, PySem.W.CodeHd s1.heap p.1 p.2
  bmain : ∃ (bm : Addr) (ob : Obj), mg "__builtins__" = some (.ref bm) ∧ bm ≠ builtinsNs ∧ s1.heap.get? bm = some ob ∧ ob.cls = .type "module" ∧ ob.dict = some builtinsNs ∧ ob.data = .plain
  lst : s1.heap.get? a = some { cls := .type "list", data := .seq vs.toArray }
  nums : IntsAre vs ns
  few : ns.length ≤ sizeLine
/-- the abstract heap ahead of it: the tables, the script -/
structure HAhead (P : Program) (w : World) (K : PySem.W.Frag) (cs : List (Addr × Addr)) (a : Addr) (s1 : Shared) (ns : List Int) (H : Hp) : Prop where
  tab : ∀ p ∈ cs, H p.2 = some (.tbl #[])
  only : ∀ b, H b = none ∨ b ∈ cs.map (·.2) ∨ ∃ o xs, H b = some (.frz o (.lst xs))
  hok : HOk P w H s1.heap
  dom : ∀ b, H b ≠ none → b = a ∨ b ∈ cs.map (·.2)
  scr : ScrAt K H a ns
  off : H a ≠ none → K.lookup a = none
theorem tab_at (h : Ahead K mg mb cs a s1 vs ns) {b : Addr} (hb : b ∈ cs.map (·.2)) : s1.heap.get? b = some { cls := .none, data := .fields #[] } := by
  obtain ⟨p, hp, e⟩ := List.mem_map.mp hb
  rw [← e]
  exact h.tab p hp
theorem a_tab (h : Ahead K mg mb cs a s1 vs ns) : a ∉ cs.map (·.2) := fun z => by
  have q := (tab_at h z).symm.trans h.lst
  have q' : Data.fields #[] = Data.seq vs.toArray _ := congrArg Obj.data (Option.some.inj q)
  cases q'
/-- what is neither a list's nor a table's object is not tracked -/
theorem untracked (h : Ahead K mg mb cs a s1 vs ns) {H : Hp} (A : HAhead P w K cs a s1 ns H) {b : Addr} {o : Obj} (e : s1.heap.get? b = some o) (h1 : ∀ vs n, o.data ≠ .seq vs n) (h2 : o.data ≠ .fields #[]) : H b = none := by
  cases q : H b with
  | none => rfl
  | some u =>
    rcases A.dom b (by rw [q]; simp) with z | z
    · rw [z, h.lst] at e
      cases e
      exact (h1 _ _ rfl).elim
    · rw [tab_at h z] at e
      cases e
      exact (h2 rfl).elim
theorem untracked_dict (h : Ahead K mg mb cs a s1 vs ns) {H : Hp} (A : HAhead P w K cs a s1 ns H) {b : Addr} {o : Obj} {es : Array DictEntry} {ep : Nat} (e : s1.heap.get? b = some o) (d : o.data = .dict es ep) : H b = none :=
  untracked h A e (fun vs n z => by rw [d] at z; cases z) fun z => by rw [d] at z; cases z
theorem hid_ns (h : Ahead K mg mb cs a s1 vs ns) {H : Hp} (A : HAhead P w K cs a s1 ns H) {b : Addr} {m : Str → Option Value} (q : s1.heap.Ns b m) : (hidT s1.heap H).Ns b m := by
  obtain ⟨o, es, ep, e, d, r⟩ := q
  exact ⟨o, es, ep, hidT_get e (untracked_dict h A e d), d, r⟩
theorem hid_in (h : Ahead K mg mb cs a s1 vs ns) {H : Hp} (A : HAhead P w K cs a s1 ns H) : K.In (hidT s1.heap H) := fun b o e => hidT_get (h.kin b o e) (by
  cases q : H b with
  | none => rfl
  | some u =>
    rcases A.dom b (by rw [q]; simp) with z | z
    · rw [z] at e q
      rw [A.off (by rw [q]; simp)] at e
      cases e
    · obtain ⟨p, hp, ep⟩ := List.mem_map.mp z
      rw [← ep, h.tabK p hp] at e
      cases e)
theorem hid_tab (h : Ahead K mg mb cs a s1 vs ns) {H : Hp} (A : HAhead P w K cs a s1 ns H) : ∀ p ∈ cs, LamX.TabB (hidT s1.heap H) mg p.1 p.2 := fun p hp => by
  have tp := h.tab p hp
  obtain ⟨oM, esM, epM, eM, dM, _⟩ := id h.nsm
  refine ⟨?_, ?_, fun z => ?_⟩
  · obtain ⟨o, us, file, tf, flags, tg, inF, text, tt, e1, r1, r2, r3, r⟩ := h.code p hp
    refine ⟨o, us, file, tf, flags, tg, inF, text, tt, hidT_get e1 (untracked h A e1 (fun vs n z => ?_) fun z => ?_), r1, r2, r3, r⟩
    · rw [r2] at z
      cases z
    · rw [r2] at z
      cases z
      simp at r3
  · obtain ⟨bm, ob, b1, b2, b3, b4, b5, b6⟩ := h.bmain
    refine ⟨bm, ob, b1, b2, fun q => ?_, fun q => ?_, hidT_get b3 (untracked h A b3 (fun vs n z => ?_) fun z => ?_), b4, b5, b6⟩
    · rw [q, eM] at b3
      cases b3
      rw [dM] at b6
      cases b6
    · rw [q, tp] at b3
      cases b3
      cases b6
    · rw [b6] at z
      cases z
    · rw [b6] at z
      cases z
  · rw [z, tp] at eM
    cases eM
    cases dM
/-- the law's call, from such a heap -/
theorem law_run (h : Ahead K mg mb cs a s1 vs ns) (hr : Room k callerA) {H : Hp} (A : HAhead P w K cs a s1 ns H) (F : FnM P w K mg (hidT s1.heap H) k fa fd ps sp) (hb : BindsTo s1 fd ⟨[.ref a], []⟩ (ps.zip [.ref a])) (hsp : sp [.ref a] H (fun v _ => v = .bl true) fun _ _ _ => False) :
    codeAny (model P w) callerA (.call (.ref fa) ⟨[.ref a], []⟩) (fun r s' => r = .ok (.ret (.bool true)) ∧ OldK s1.heap s'.heap ∧ s'.os = s1.os ∧ AllBare s'.gens) s1 := by
  have M : L2.Mod K mg (hidT s1.heap H) := ⟨hid_in h A, hid_ns h A h.nsm, ⟨mb, hid_ns h A h.nsb, h.boot⟩, let ⟨mc, h1, h2⟩ := h.lim; ⟨mc, hid_ns h A h1, h2⟩⟩
  have e0 : Env0 P w K mg (hidT s1.heap H) callerA [] s1 H := ⟨rfl, M, fun b o e => of_hidT e, Nat.le_of_eq (hidT_size _ _), trivial, fun b hb => absurd (show b ∈ ([] : List Addr) from hb) (by simp), A.hok, .of_eq h.gens⟩
  refine codeAny_mono (F.run callerA [] s1 H ⟨[.ref a], []⟩ [.ref a] [.ref a] _ _ hr rfl e0 hb (.cons rfl .nil) hsp) fun r s' q => ?_
  match r, q with
  | .error e, q =>
    obtain ⟨_, _, _, _, _, _, _, _, _, _, _, _, z⟩ := q
    exact z.elim
  | .ok .next, q => exact False.elim q
  | .ok .brk, q => exact False.elim q
  | .ok .cont, q => exact False.elim q
  | .ok (.ret u), q =>
    obtain ⟨v, H', os, bare, un, hok', rv, qv⟩ := q
    subst qv
    obtain rfl : u = Value.bool true := rv
    have kept : ∀ b o, b ∉ cs.map (·.2) → s1.heap.get? b = some o → s'.heap.get? b = some o := fun b o nb e => by
      rcases A.only b with z | z | ⟨ob, xs, z⟩
      · exact un.keep b o e z (by intro z; exact absurd (show b ∈ ([] : List Addr) from z) (by simp)) (by simp)
      · exact absurd z nb
      · obtain ⟨e1, _⟩ := A.hok b _ z
        obtain ⟨e2, _⟩ := hok' b _ (un.frzs b ob _ z)
        rw [e] at e1
        cases e1
        exact e2
    have grown : ∀ p ∈ cs, ∃ more : Array Value, s'.heap.get? p.2 = some { cls := .none, data := .fields more } := fun p hp => by
      obtain ⟨more, z⟩ := un.tbls p.2 #[] (A.tab p hp)
      exact ⟨_, hok' p.2 _ z⟩
    refine ⟨rfl, ⟨fun b o e => ?_, fun b o e => ?_⟩, os, bare⟩
    · by_cases hb : b ∈ cs.map (·.2)
      · obtain ⟨p, hp, ep⟩ := List.mem_map.mp hb
        obtain ⟨more, hm⟩ := grown p hp
        rw [← ep] at e ⊢
        rw [h.tab p hp] at e
        cases e
        exact .inr (.inl ⟨((h.code p hp).tab (h.tab p hp)).isCodeTable, rfl, #[], more, rfl, by rw [Array.empty_append]; exact hm⟩)
      · exact .inl (kept b o hb e)
    · by_cases hb : b ∈ cs.map (·.2)
      · obtain ⟨p, hp, ep⟩ := List.mem_map.mp hb
        obtain ⟨more, hm⟩ := grown p hp
        rw [← ep]
        exact ⟨_, hm⟩
      · exact ⟨o, kept b o hb e⟩
/-- the abstract heap, made -/
theorem ahead_heap (P : Program) (w : World) (h : Ahead K mg mb cs a s1 vs ns) : ∃ H, HAhead P w K cs a s1 ns H := by
  have rv := vals_ints h.nums
  have lenV := h.nums.length
  have memT : ∀ p ∈ cs, p.2 ∈ cs.map (·.2) := fun p hp => List.mem_map.mpr ⟨p, hp, rfl⟩
  have aT := a_tab h
  cases hk : K.lookup a with
  | some o =>
    have e := h.kin a o hk
    rw [h.lst] at e
    cases e
    refine ⟨fun b => if b ∈ cs.map (·.2) then some (.tbl #[]) else none, fun p hp => if_pos (memT p hp), fun b => ?_, fun b u z => ?_, fun b z => ?_, .inr ⟨_, vs.toArray, _, hk, rfl, rfl, rfl, by rw [List.size_toArray, lenV]; exact h.few, by simpa using rv⟩, fun z => absurd (if_neg aT) z⟩
    · by_cases hb : b ∈ cs.map (·.2)
      · exact .inr (.inl hb)
      · exact .inl (if_neg hb)
    · by_cases hb : b ∈ cs.map (·.2)
      · cases (if_pos hb).symm.trans z
        exact tab_at h hb
      · cases (if_neg hb).symm.trans z
    · by_cases hb : b ∈ cs.map (·.2)
      · exact .inr hb
      · exact absurd (if_neg hb) z
  | none =>
    refine ⟨fun b => if b = a then some (.frz { cls := .type "list", data := .seq vs.toArray } (.lst (ns.map V.int))) else if b ∈ cs.map (·.2) then some (.tbl #[]) else none,
      fun p hp => (if_neg (show ¬ p.2 = a from fun z => aT (by rw [← z]; exact memT p hp))).trans (if_pos (memT p hp)), fun b => ?_, fun b u z => ?_, fun b z => ?_, .inl ⟨{ cls := .type "list", data := .seq vs.toArray }, if_pos rfl⟩, fun _ => hk⟩
    · by_cases hb : b = a
      · exact .inr (.inr ⟨_, _, if_pos hb⟩)
      · by_cases hc : b ∈ cs.map (·.2)
        · exact .inr (.inl hc)
        · exact .inl ((if_neg hb).trans (if_neg hc))
    · by_cases hb : b = a
      · cases (if_pos hb).symm.trans z
        rw [hb]
        exact ⟨h.lst, by rw [List.length_map]; exact h.few, vs, _, rv, h.lst⟩
      · by_cases hc : b ∈ cs.map (·.2)
        · cases (if_pos hc).symm.trans ((if_neg hb).symm.trans z)
          exact tab_at h hc
        · cases (if_neg hc).symm.trans ((if_neg hb).symm.trans z)
    · by_cases hb : b = a
      · exact .inl hb
      · by_cases hc : b ∈ cs.map (·.2)
        · exact .inr hc
        · exact absurd ((if_neg hb).trans (if_neg hc)) z
end
/-- what the link tells of a law: at the head's heap -/
structure Link (P : Program) (w : World) (K : PySem.W.Frag) (mg : Str → Option Value) (h : Heap) (L : Lk) (g : Gb) (cs : List (Addr × Addr)) (law : Str) : Prop where
  eK : L.K = K
  eM : L.mg = mg
  tab : ∀ p ∈ cs, h.get? p.2 = some { cls := .none, data := .fields #[] }
  tabK : ∀ p ∈ cs, K.lookup p.2 = none
  code : ∀ p ∈ cs, PySem.W.CodeHd h p.1 p.2
  tabs : ∀ q ∈ L.T, q.1 ∈ cs.map (·.2)
  gb : GbOk L g
  defs : ∀ base : Heap, (∀ p ∈ cs, LamX.TabB base mg p.1 p.2) → ∀ i x, posOf g.fns x = some i → DefOk L g base i x
/-- what the mirror answers at the law's call -/
def answers (pg : Pg) (n i : Nat) (ns : List Int) : Bool := match (mkCl pg (tabs pg n)).call i [.scr ns] [] with
  | .ok (.bl true) _ => true
  | _ => false
theorem tabs_nil {T : List (Addr × Str)} {cs : List (Addr × Addr)} {H : Hp} (h1 : ∀ p ∈ cs, H p.2 = some (.tbl #[])) (h2 : ∀ q ∈ T, q.1 ∈ cs.map (·.2)) : LamX.Tabs T H := fun q hq => by
  obtain ⟨p, hp, e⟩ := List.mem_map.mp (h2 q hq)
  exact LamX.TabS.nil (by rw [← e]; exact h1 p hp)
theorem answers_np {pg : Pg} {n i : Nat} {ns : List Int} (h : answers pg n i ns = true) : ∃ fd, pg.fns[i]? = some fd ∧ fd.np = 1 := by
  unfold answers at h
  simp only [mkCl] at h
  cases e : pg.fns[i]? with
  | none =>
    rw [e] at h
    cases h
  | some fd =>
    rw [e] at h
    refine ⟨fd, rfl, ?_⟩
    by_cases hc : fd.thk = false ∧ [D.scr ns].length = fd.np
    · exact hc.2.symm
    · simp only [hc, if_false] at h
      cases h
theorem sp_law {L : Lk} {n i : Nat} {ps : List Str} {a : Addr} {ns : List Int} {H : Hp} {cs : List (Addr × Addr)} (hp : ps.length = 1) (hs : ScrAt L.K H a ns) (h1 : ∀ p ∈ cs, H p.2 = some (.tbl #[])) (h2 : ∀ q ∈ L.T, q.1 ∈ cs.map (·.2)) (ha : answers L.pg n i ns = true) :
    spF L n i ps [.ref a] H (fun v _ => v = .bl true) fun _ _ _ => False := by
  refine ⟨hp.symm, [], [], [.scr ns], ⟨rfl, List.nodup_nil, fun r b o e => by simp at e, tabs_nil h1 h2⟩, .cons (.scr hs) .nil, ?_⟩
  unfold answers at ha
  split at ha
  · next d h e =>
    rw [e]
    intro ρ' H' b _ _ rb
    cases rb
    rfl
  · cases ha
/-- the goal that the head leaves, by the mirror's answer -/
theorem walkM {l : PySem.W.OpenLaw} {n m i : Nat} {q : Program} {loose : List Str} {XP : (Str → Option Value) → Heap → Prop} {YP : World → Heap → Prop} {d : DefRec} {K : Params → PySem.W.Frag} {pg : Pg} {g : Gb}
    (hn : l.most = some n) (hn2 : n ≤ sizeLine) (hdf : d.params.defaults = []) (hr : Room (m + 1) callerA) (hY : ∀ (w : World) (h : Heap), YP w h → (K w.params).In h) (hi : posOf g.fns d.name = some i)
    (F : ∀ (w : World) (mg mb : Str → Option Value) (mean : ExcName → Option Value) (h : Heap), YP w h → (K w.params).In h → Top q (PySem.W.looseW q loose) mean mg mb h → ∃ (L : Lk) (cs : List (Addr × Addr)), Link l.prog w (K w.params) mg h L g cs d.name ∧ L.pg = pg)
    (ans : ∀ ns : List Int, ns.length ≤ n → (∀ z ∈ ns, Builtin.Int.intBits z ≤ 1048576) → answers pg m i ns = true) : PySem.W.WalkO q loose XP YP l.row.toRowW d [] (fun f vs => PySem.call f vs) := by
  refine Att.attach_callB hn hdf fun w s₀ s₁ mg mb fa o pm cd doc a vs ns G Y ho hd hcd hmg hobj hints hlen hbits hg => ?_
  have KX := hY w _ Y
  obtain ⟨L, cs, Z, epg⟩ := F w mg mb _ _ Y KX G.T
  have A : Ahead (K w.params) mg mb cs a s₁ vs ns := ⟨KX, G.T.g, G.T.b, G.T.builtins, G.T.nolimit, hg, Z.tab, Z.tabK, Z.code, G.T.bmain, hobj, hints, Nat.le_trans hlen hn2⟩
  obtain ⟨H, AH⟩ := ahead_heap l.prog w A
  have ha := ans ns hlen hbits
  obtain ⟨fd0, e0, e1⟩ := answers_np ha
  obtain ⟨fa', fd, ps, f1, f2, f3, f4, f5⟩ := (fns_ok (P := l.prog) (w := w) (base := hidT s₁.heap H) Z.gb (Z.defs _ (hid_tab A AH)) m i d.name hi).1.ex
  rw [Z.eM, hmg] at f1
  cases f1
  have hp : ps.length = 1 := by rw [← f5 fd0 (by rw [epg]; exact e0), e1]
  rw [Z.eK, Z.eM] at f4
  rw [Z.eK] at f3
  have hb := f3 s₁ [.ref a] KX (by rw [List.append_nil, hp]; rfl)
  rw [List.append_nil] at hb
  exact law_run A hr AH f4 hb (sp_law hp (by rw [Z.eK]; exact AH.scr) AH.tab Z.tabs (by rw [epg]; exact ha))
end MX
namespace MX
open PySem PySem.Spec PyProof.Rows L2
/-! ### from the link's facts -/
/-- what the text alone says of a def -/
structure DefT (g : Gb) (x : Str) (st : Stmt) (fd : FD) (lamf : Bool) : Prop where
  ex : ∃ (N ps : List Str) (fuel : Nat), C8.scC N ps (defScope st) = true ∧ fd.np = ps.length ∧ fd.ns = N.length ∧
    (∀ (kV doc pm : Value) (an : Option Addr) (cdv ct : Value) (us : List Value), us.length = ps.length → bindArgs (PySem.W.fnOf x x (defArgs st) (defBody st) (defScope st) .none kV doc pm an cdv ct) ⟨us, []⟩ = pure (ps.zip us)) ∧
    (fd.thk = false → cSs fuel { g := g, N := N, sc := defScope st, lam := lamf } (defBody st) = some fd.body) ∧
    (fd.thk = true → ∃ a', ps = [a'] ∧ N[0]? = some a' ∧ Vis (defScope st) a' ∧ (a' == ("__debug__" : Str)) = false ∧ (a' == ("__classdict__" : Str)) = false ∧ cSs fuel { g := g, N := N, sc := defScope st, thk := some a', pin := [0], lam := lamf } (defBody st) = some fd.body) ∧
    (x ∈ g.thks → fd.thk = true)
/-- what the written part says of it -/
structure DefK (K : PySem.W.Frag) (x : Str) (st : Stmt) (f : Addr) (cdv : Value) : Prop where
  ns : PySem.W.nsIn K mainGlobals x = some (some (.ref f))
  lk : ∃ (oc : Value) (od : Option Addr) (kV doc pm : Value) (an : Option Addr) (ct : Value) (osl : Array (Option Value)), K.lookup f = some ⟨oc, od, .func (PySem.W.fnOf x x (defArgs st) (defBody st) (defScope st) .none kV doc pm an cdv ct), osl⟩
  cd : PySem.W.codeIn K cdv x = true
  kp : PySem.W.keepIn K (.ref f) = true
theorem defK_mk {K : PySem.W.Frag} {x : Str} {st : Stmt} {f : Addr} {oc kV doc pm cdv ct : Value} {od an : Option Addr} {osl : Array (Option Value)} (a : PySem.W.nsIn K mainGlobals x = some (some (.ref f)))
    (l : K.lookup f = some ⟨oc, od, .func (PySem.W.fnOf x x (defArgs st) (defBody st) (defScope st) .none kV doc pm an cdv ct), osl⟩) (c : PySem.W.codeIn K cdv x = true) (k : PySem.W.keepIn K (.ref f) = true) : DefK K x st f cdv := ⟨a, ⟨oc, od, kV, doc, pm, an, ct, osl, l⟩, c, k⟩
section
variable {K : PySem.W.Frag} {h : Heap} {mg mb : Str → Option Value} {L : Lk} {g : Gb} {base : Heap} {p : Program} {loose : List Str} {mean : ExcName → Option Value}
theorem defOk_mk {i : Nat} {x : Str} {st : Stmt} {f : Addr} {cdv : Value} {fd : FD} {lamf : Bool} (eK : L.K = K) (eM : L.mg = mg) (X : K.In h) (G : h.Ns mainGlobals mg) (D : DefK K x st f cdv) (T : DefT g x st fd lamf) (hf : L.pg.fns[i]? = some fd)
    (hl : lamf = true → ∃ c P, LamX.TabB base L.mg c P ∧ cdv = .ref c ∧ (P, (x ++ ".<locals>.") ++ "<lambda>") ∈ L.T ∧ ∀ q ∈ L.T, q.1 = P → q.2 = (x ++ ".<locals>.") ++ "<lambda>") : DefOk L g base i x := by
  obtain ⟨N, ps, fuel, t1, t2, t3, t4, t5, t6, t7⟩ := T.ex
  obtain ⟨oc, od, kV, doc, pm, an, ct, osl, lk⟩ := D.lk
  have S := C8.fnScope_by t1
  exact ⟨f, defArgs st, defBody st, defScope st, .none, kV, doc, pm, cdv, ct, oc, an, od, osl, N, ps, fuel, fd, lamf, by rw [eM]; exact PySem.W.mg_of X G D.ns, by rw [eK]; exact lk, by rw [eK]; exact D.cd, by rw [eK]; exact D.kp, .all (t4 kV doc pm an cdv ct), S, S.nd, hf, t2, t3, t5, t6, t7, hl⟩
/-- a def's code object and its table -/
theorem code_of {x : Str} {st : Stmt} {f c P : Addr} (T : Top p loose mean mg mb h) (X : K.In h) (hr : (recsOf p).any (fun e => e.name == x) = true) (D : DefK K x st f (.ref c)) {oc : Value} {od : Option Addr} {vs : Array Value} {osl : Array (Option Value)} (lc : K.lookup c = some ⟨oc, od, .fields vs, osl⟩) (hv : vs[11]? = some (.ref P)) :
    PySem.W.CodeHd h c P ∧ h.get? P = some { cls := .none, data := .fields #[] } := by
  obtain ⟨d, hd, hn⟩ := List.any_eq_true.mp hr
  have hn : d.name = x := beq_iff_eq.mp hn
  obtain ⟨a, o, fd, c', P', h1, h2, h3, h4, h5, h6⟩ := T.tab d hd
  rw [hn, PySem.W.mg_of X T.g D.ns] at h1
  cases h1
  obtain ⟨oc1, od1, kV, doc, pm, an, ct, osl1, lk⟩ := D.lk
  have e2 := X _ _ lk
  rw [h2] at e2
  cases e2
  cases h3
  cases h4
  have h6' := h6
  obtain ⟨⟨oo, ws, g1, g2, g3, g4⟩, g5⟩ := h6'
  have e3 := X _ _ lc
  rw [g1] at e3
  cases e3
  cases g3
  rw [hv] at g4
  cases g4
  exact ⟨PySem.W.CodeHd.of h5 h6, g5⟩
/-- all the defs -/
inductive AllD (L : Lk) (g : Gb) (base : Heap) : Nat → List Str → Prop
  | nil {i : Nat} : AllD L g base i []
  | cons {i : Nat} {x : Str} {xs : List Str} : DefOk L g base i x → AllD L g base (i + 1) xs → AllD L g base i (x :: xs)
theorem AllD.get {xs : List Str} : ∀ {i : Nat}, AllD L g base i xs → ∀ j x, xs[j]? = some x → DefOk L g base (i + j) x := by
  induction xs with
  | nil =>
    intro i _ j x e
    simp at e
  | cons y ys ih =>
    intro i a j x e
    cases a with
    | cons d r =>
      cases j with
      | zero =>
        simp at e
        subst e
        exact d
      | succ j =>
        have := ih r j x (by simpa using e)
        rw [show i + 1 + j = i + (j + 1) by omega] at this
        exact this
theorem AllD.defs (a : AllD L g base 0 g.fns) : ∀ i x, posOf g.fns x = some i → DefOk L g base i x := fun i x e => by
  have := a.get i x (posOf_get e)
  rwa [Nat.zero_add] at this
/-! ### classes -/
/-- a class of exceptions without own __init__ -/
structure ClsK (K : PySem.W.Frag) (x : Str) (C : Addr) : Prop where
  ns : PySem.W.nsIn K mainGlobals x = some (some (.ref C))
  kp : PySem.W.keepIn K (.ref C) = true
  sb : PySem.W.subIn K (.ref C) (.type "BaseException") = some true
  ty : PySem.W.typeIn K (.ref C) = some (.type "type")
  ic : PySem.W.isClsIn K C = true
theorem exm_of {C E : Addr} {b : Bool} (h1 : PySem.W.subIn K (.ref E) (.type "BaseException") = some true) (h2 : PySem.W.isClsIn K E = true) (h3 : PySem.W.typeIn K (.ref E) = some (.type "type")) (h4 : PySem.W.subIn K (.ref C) (.ref E) = some b) : PySem.W.exmOne K (.ref C) (.ref E) = some b := by
  have e1 : (PySem.W.subIn K (.ref E) (.type "BaseException") == some true) = true := by rw [h1] <;> rfl
  have e2 : ((PySem.W.clsIn K E).isSome && PySem.W.typeIn K (.ref E) == some (.type "type")) = true := by
    have h2' : (PySem.W.clsIn K E).isSome = true := h2
    rw [h2', h3] <;> rfl
  refine (if_pos e1).trans ?_
  exact (if_pos e2).trans h4
/-- an object of the written part is such a class, with __init__ of its own -/
def iniB (C : Addr) (bmB : List Value) (newId : String) (dt : Data) (sl : Array (Option Value)) : Bool := match dt with
  | .cls cd => (match cd.mro, sl.toList with
    | .ref C' :: bm, [_, _, _, _, some (.builtin n), _] => C' == C && n == newId && !cd.hasDel && cd.hasDict && PySem.W.excTail bmB bm
    | _, _ => false)
  | _ => false
theorem iniC_mk {C fI : Addr} {f : Str} {B newId initId : String} {bmB : List Value} {dd : Option Addr} {dt : Data} {sl : Array (Option Value)} (FB : ExcBaseFacts B newId initId bmB) (SF : StoreFacts B bmB "object.__setattr__" "object")
    (lc : K.lookup C = some ⟨.type "type", dd, dt, sl⟩) (hb : iniB C bmB newId dt sl = true) (tak : PySem.W.takerIn K C f = some none) (sa : PySem.W.findIn K (.ref C) "__setattr__" = some (some (.builtin "object.__setattr__")))
    (exC : PySem.W.subIn K (.ref C) (.type "BaseException") = some true) (tyC : PySem.W.typeIn K (.ref C) = some (.type "type")) (kC : PySem.W.keepIn K (.ref C) = true) (ini : PySem.W.findIn K (.ref C) "__init__" = some (some (.ref fI)))
    (tI : PySem.W.typeIn K (.ref fI) = some (.type "function")) : IniC K C fI f := by
  unfold iniB at hb
  split at hb
  · next cd =>
    split at hb
    · next C' bm a1 a2 a3 a4 n a6 hm hs =>
      simp only [Bool.and_eq_true, beq_iff_eq, Bool.not_eq_true'] at hb
      obtain ⟨⟨⟨⟨b1, b2⟩, b3⟩, b4⟩, b5⟩ := hb
      have hcl : PySem.W.clsIn K C = some cd := by
        unfold PySem.W.clsIn
        rw [lc]
      refine ⟨⟨B, newId, initId, bmB, cd, FB, SF, ?_, ?_, hcl, b4⟩, tak, sa, exC, tyC, kC, ini, tI⟩
      · unfold PySem.W.excInitIn
        rw [lc]
        show (match cd.mro, sl.toList with
          | .ref C' :: bm, [_, _, _, _, some (.builtin n), _] => C' == C && n == newId && !cd.hasDel && PySem.W.excTail bmB bm
          | _, _ => false) = true
        rw [hm, hs]
        simp [b1, b2, b3, b5]
      · unfold PySem.W.excOver
        rw [hcl]
        simp only [Option.any_some]
        rw [hm]
        simp [b1, b5]
    · cases hb
  · cases hb
end
section
variable {K : PySem.W.Frag} {h : Heap} {mg : Str → Option Value} {L : Lk} {g : Gb}
theorem iniD_mk {C fI : Addr} {f self val qual : Str} {st : Stmt} {kV doc pm cdv ct oc : Value} {an od : Option Addr} {osl : Array (Option Value)} {p1 p2 p3 p4 : Pos} (T : IniC K C fI f)
    (l : K.lookup fI = some ⟨oc, od, .func (PySem.W.fnOf "__init__" qual (defArgs st) (defBody st) (defScope st) .none kV doc pm an cdv ct), osl⟩) (c : PySem.W.codeIn K cdv qual = true) (hb : defBody st = [.Assign [.Attribute (.Name self p1) f p2] (.Name val p3) p4])
    (hB : ∀ (kV doc pm : Value) (an : Option Addr) (cdv ct : Value) (us : List Value), us.length = [self, val].length → bindArgs (PySem.W.fnOf "__init__" qual (defArgs st) (defBody st) (defScope st) .none kV doc pm an cdv ct) ⟨us, []⟩ = pure ([self, val].zip us))
    (hs : C8.scC [self, val] [self, val] (defScope st) = true) (n1 : (self == ("__debug__" : Str)) = false) (n2 : (self == ("__classdict__" : Str)) = false) (n3 : (val == ("__debug__" : Str)) = false) (n4 : (val == ("__classdict__" : Str)) = false) : IniD K C f := by
  have S := C8.fnScope_by hs
  have v1 : Vis (defScope st) self := (S.par self (by simp)).elim .inl fun z => .inr (.inl z)
  have v2 : Vis (defScope st) val := (S.par val (by simp)).elim .inl fun z => .inr (.inl z)
  have B := hB kV doc pm an cdv ct
  rw [hb] at l B
  exact ⟨fI, self, val, qual, defArgs st, defScope st, .none, kV, doc, pm, cdv, ct, oc, an, od, osl, p1, p2, p3, p4, T, l, c, .all B, S, v1, v2, n1, n2, n3, n4⟩
/-- constants of the module -/
inductive AllC (L : Lk) : List (Str × D) → Prop
  | nil : AllC L []
  | cons {x : Str} {d : D} {r : List (Str × D)} : (∃ v u, L.mg x = some u ∧ L2.RelV v u ∧ ∀ ρ H, VRel L.K ρ H d v) → AllC L r → AllC L ((x, d) :: r)
theorem AllC.get : ∀ {l : List (Str × D)}, AllC L l → ∀ x d, l.lookup x = some d → ∃ v u, L.mg x = some u ∧ L2.RelV v u ∧ ∀ ρ H, VRel L.K ρ H d v
  | _, .nil, x, d, h => by simp at h
  | (y, e) :: r, .cons a b, x, d, h => by
    rw [List.lookup_cons] at h
    split at h
    · next hx =>
      cases h
      rw [show x = y by simpa using hx]
      exact a
    · exact AllC.get b x d h
theorem c_str {x : Str} {s : Str} {t : Tok} (X : K.In h) (G : h.Ns mainGlobals mg) (eM : L.mg = mg) (e : PySem.W.nsIn K mainGlobals x = some (some (.str s t))) : ∃ v u, L.mg x = some u ∧ L2.RelV v u ∧ ∀ ρ H, VRel L.K ρ H (.str s) v :=
  ⟨.str s, _, by rw [eM]; exact PySem.W.mg_of X G e, ⟨t, rfl⟩, fun _ _ => .str s⟩
theorem c_int {x : Str} {i : Int} {t : Tok} (X : K.In h) (G : h.Ns mainGlobals mg) (eM : L.mg = mg) (e : PySem.W.nsIn K mainGlobals x = some (some (.int i t))) : ∃ v u, L.mg x = some u ∧ L2.RelV v u ∧ ∀ ρ H, VRel L.K ρ H (.int i) v :=
  ⟨.int i, _, by rw [eM]; exact PySem.W.mg_of X G e, ⟨t, rfl⟩, fun _ _ => .int i⟩
inductive AllB (K : PySem.W.Frag) : List Str → Prop
  | nil : AllB K []
  | cons {x : Str} {r : List Str} : PySem.W.nsIn K mainGlobals x = some none → AllB K r → AllB K (x :: r)
theorem AllB.get (X : K.In h) (G : h.Ns mainGlobals mg) (eM : L.mg = mg) : ∀ {l : List Str}, AllB K l → ∀ x, x ∈ l → L.mg x = none
  | _, .nil, x, h => by cases h
  | _ :: _, .cons a b, x, hx => by
    rcases List.mem_cons.mp hx with rfl | hx
    · rw [eM]
      exact PySem.W.mg_none_of X G a
    · exact AllB.get X G eM b x hx
theorem AllD.fnv {base : Heap} {xs : List Str} (a : AllD L g base 0 xs) (h : xs = g.fns) (K0 : ∀ i x, posOf g.fns x = some i → ∃ f, L.mg x = some (.ref f) ∧ PySem.W.keepIn L.K (.ref f) = true) : ∀ x i, posOf g.fns x = some i → ∃ f, L.mg x = some (.ref f) ∧ PySem.W.keepIn L.K (.ref f) = true := fun x i e => K0 i x e
/-- the functions' values -/
inductive AllF (K : PySem.W.Frag) : List Str → Prop
  | nil : AllF K []
  | cons {x : Str} {st : Stmt} {f : Addr} {cdv : Value} {r : List Str} : DefK K x st f cdv → AllF K r → AllF K (x :: r)
theorem AllF.get (X : K.In h) (G : h.Ns mainGlobals mg) (eM : L.mg = mg) (eK : L.K = K) : ∀ {l : List Str}, AllF K l → ∀ x, x ∈ l → ∃ f, L.mg x = some (.ref f) ∧ PySem.W.keepIn L.K (.ref f) = true
  | _, .nil, x, h => by cases h
  | _ :: _, .cons a b, x, hx => by
    rcases List.mem_cons.mp hx with rfl | hx
    · exact ⟨_, by rw [eM]; exact PySem.W.mg_of X G a.ns, by rw [eK]; exact a.kp⟩
    · exact AllF.get X G eM eK b x hx
end
theorem getD_of {l : List Str} {i : Nat} {x d : Str} (e : l[i]? = some x) : l.getD i d = x := by
  rw [List.getD_eq_getElem?_getD, e]
  rfl
end MX
namespace K01
open PySem PySem.Spec PyProof.Rows L2 MX
def topS (i : Nat) : Stmt := PySem.Challenge.pw_timesdear_k01_names_and_fractions.main.body.getD i (.Pass ⟨0, 0, 0, 0⟩)
def gb : Gb := { fns := [(Str.ofString "is_integer"), (Str.ofString "is_between"), (Str.ofString "is_name"), (Str.ofString "common_divisor"), (Str.ofString "is_fraction"), (Str.ofString "require_fraction"), (Str.ofString "reduced"), (Str.ofString "less_than"), (Str.ofString "product_in"), (Str.ofString "make_fraction"), (Str.ofString "fraction_product"), (Str.ofString "compared"), (Str.ofString "require_fractions"), (Str.ofString "least_in"), (Str.ofString "greatest_in"), (Str.ofString "least_fraction"), (Str.ofString "greatest_fraction"), (Str.ofString "_law_start"), (Str.ofString "_law_throw"), (Str.ofString "_law_pick"), (Str.ofString "_law_whole"), (Str.ofString "_law_divisor"), (Str.ofString "_law_is_fraction"), (Str.ofString "_law_met"), (Str.ofString "_law_is_name"), (Str.ofString "_law_word"), (Str.ofString "_law_number"), (Str.ofString "_law_lowest"), (Str.ofString "_law_drawn_fraction"), (Str.ofString "_law_values_right"), (Str.ofString "_law_sums_right"), (Str.ofString "_law_refused_right"), (Str.ofString "law")], gc := [("LETTERS", (.str (Str.ofString "abcdefghijklmnopqrstuvwxyz"))), ("MOST_LETTERS", (.int 8)), ("LESS", (.str (Str.ofString "less"))), ("EQUAL", (.str (Str.ofString "equal"))), ("GREATER", (.str (Str.ofString "greater")))], bl := [(Str.ofString "len"), (Str.ofString "abs"), (Str.ofString "max"), (Str.ofString "min"), (Str.ofString "int"), (Str.ofString "list"), (Str.ofString "tuple"), (Str.ofString "repr"), (Str.ofString "all"), (Str.ofString "isinstance"), (Str.ofString "bool"), (Str.ofString "str"), (Str.ofString "range")], cls := ["InvalidOperation", "InvalidNumber"], ini := [none, some 0], fld := ["value"], thks := ["_law_met"] }
def b0 : CSs := (.cons (.ret (.andE (.isi (.slot 0) .int) (.notE (.isi (.slot 0) .bool)))) .nil)
abbrev d0 : FD := ⟨false, 1, 1, b0⟩
def b1 : CSs := (.cons (.ret (.andE (.call 0 (.cons (.slot 0) .nil)) (.andE (.cmp .le (.slot 1) (.slot 0)) (.orE (.isN (.slot 2)) (.cmp .le (.slot 0) (.slot 2)))))) .nil)
abbrev d1 : FD := ⟨false, 3, 3, b1⟩
def b2 : CSs := (.cons (.ret (.andE (.isi (.slot 0) .str) (.andE (.chain .le .le (.con (.int (1))) (.bt .len (.cons (.slot 0) .nil)) (.con (.int (8)))) (.bt .all (.cons (.comp (.cmp .isin (.slot 1) (.con (.str (Str.ofString "abcdefghijklmnopqrstuvwxyz")))) [1] (.name 1) (.seq (.slot 0)) .nil) .nil))))) .nil)
abbrev d2 : FD := ⟨false, 1, 2, b2⟩
def b3 : CSs := (.cons (.whileS (.cmp .ne (.slot 1) (.con (.int (0)))) (.cons (.par [0, 1] (.cons (.slot 1) (.cons (.bin .mod (.slot 0) (.slot 1)) .nil))) .nil)) (.cons (.ret (.slot 0)) .nil))
abbrev d3 : FD := ⟨false, 2, 2, b3⟩
def b4 : CSs := (.cons (.ifS (.orE (.notE (.isi (.slot 0) .tuple)) (.orE (.cmp .ne (.bt .len (.cons (.slot 0) .nil)) (.con (.int (2)))) (.notE (.call 1 (.cons (.idx (.slot 0) (.con (.int (0)))) (.cons (.con (.int (0))) (.cons (.con .non) .nil))))))) (.cons (.ret (.con (.bl false))) .nil) .nil) (.cons (.ret (.andE (.call 1 (.cons (.idx (.slot 0) (.con (.int (1)))) (.cons (.con (.int (1))) (.cons (.con .non) .nil)))) (.cmp .eq (.call 3 (.cons (.idx (.slot 0) (.con (.int (0)))) (.cons (.idx (.slot 0) (.con (.int (1)))) .nil))) (.con (.int (1)))))) .nil))
abbrev d4 : FD := ⟨false, 1, 1, b4⟩
def b5 : CSs := (.cons (.ifS (.notE (.call 4 (.cons (.slot 0) .nil))) (.cons (.raiseM 0) .nil) .nil) .nil)
abbrev d5 : FD := ⟨false, 1, 1, b5⟩
def b6 : CSs := (.cons (.asg (.name 2) (.call 3 (.cons (.slot 0) (.cons (.slot 1) .nil)))) (.cons (.ret (.tup (.cons (.bin .fdiv (.slot 0) (.slot 2)) (.cons (.bin .fdiv (.slot 1) (.slot 2)) .nil)))) .nil))
abbrev d6 : FD := ⟨false, 2, 3, b6⟩
def b7 : CSs := (.cons (.ret (.cmp .lt (.bin .mul (.idx (.slot 0) (.con (.int (0)))) (.idx (.slot 1) (.con (.int (1))))) (.bin .mul (.idx (.slot 1) (.con (.int (0)))) (.idx (.slot 0) (.con (.int (1))))))) .nil)
abbrev d7 : FD := ⟨false, 2, 2, b7⟩
def b8 : CSs := (.cons (.ret (.call 6 (.cons (.bin .mul (.idx (.slot 0) (.con (.int (0)))) (.idx (.slot 1) (.con (.int (0))))) (.cons (.bin .mul (.idx (.slot 0) (.con (.int (1)))) (.idx (.slot 1) (.con (.int (1))))) .nil)))) .nil)
abbrev d8 : FD := ⟨false, 2, 2, b8⟩
def b9 : CSs := (.cons (.ifS (.notE (.call 1 (.cons (.slot 0) (.cons (.con (.int (0))) (.cons (.con .non) .nil))))) (.cons (.raiseI 1 0 (.slot 0)) .nil) .nil) (.cons (.ifS (.notE (.call 1 (.cons (.slot 1) (.cons (.con (.int (1))) (.cons (.con .non) .nil))))) (.cons (.raiseI 1 0 (.slot 1)) .nil) .nil) (.cons (.ret (.call 6 (.cons (.slot 0) (.cons (.slot 1) .nil)))) .nil)))
abbrev d9 : FD := ⟨false, 2, 2, b9⟩
def b10 : CSs := (.cons (.expr (.call 5 (.cons (.slot 0) .nil))) (.cons (.expr (.call 5 (.cons (.slot 1) .nil))) (.cons (.ret (.call 8 (.cons (.slot 0) (.cons (.slot 1) .nil)))) .nil)))
abbrev d10 : FD := ⟨false, 2, 2, b10⟩
def b11 : CSs := (.cons (.expr (.call 5 (.cons (.slot 0) .nil))) (.cons (.expr (.call 5 (.cons (.slot 1) .nil))) (.cons (.ifS (.cmp .eq (.slot 0) (.slot 1)) (.cons (.ret (.con (.str (Str.ofString "equal")))) .nil) .nil) (.cons (.ret (.ife (.call 7 (.cons (.slot 0) (.cons (.slot 1) .nil))) (.con (.str (Str.ofString "less"))) (.con (.str (Str.ofString "greater"))))) .nil))))
abbrev d11 : FD := ⟨false, 2, 2, b11⟩
def b12 : CSs := (.cons (.ifS (.orE (.notE (.isi (.slot 0) .tuple)) (.notE (.bt .all (.cons (.comp (.call 4 (.cons (.slot 1) .nil)) [1] (.name 1) (.seq (.slot 0)) .nil) .nil)))) (.cons (.raiseM 0) .nil) .nil) .nil)
abbrev d12 : FD := ⟨false, 1, 2, b12⟩
def b13 : CSs := (.cons (.asg (.name 1) (.con .non)) (.cons (.forS (.name 2) (.seq (.slot 0)) (.cons (.ifS (.orE (.isN (.slot 1)) (.call 7 (.cons (.slot 2) (.cons (.slot 1) .nil)))) (.cons (.asg (.name 1) (.slot 2)) .nil) .nil) .nil)) (.cons (.ret (.slot 1)) .nil)))
abbrev d13 : FD := ⟨false, 1, 3, b13⟩
def b14 : CSs := (.cons (.asg (.name 1) (.con .non)) (.cons (.forS (.name 2) (.seq (.slot 0)) (.cons (.ifS (.orE (.isN (.slot 1)) (.call 7 (.cons (.slot 1) (.cons (.slot 2) .nil)))) (.cons (.asg (.name 1) (.slot 2)) .nil) .nil) .nil)) (.cons (.ret (.slot 1)) .nil)))
abbrev d14 : FD := ⟨false, 1, 3, b14⟩
def b15 : CSs := (.cons (.expr (.call 12 (.cons (.slot 0) .nil))) (.cons (.ret (.call 13 (.cons (.slot 0) .nil))) .nil))
abbrev d15 : FD := ⟨false, 1, 1, b15⟩
def b16 : CSs := (.cons (.expr (.call 12 (.cons (.slot 0) .nil))) (.cons (.ret (.call 14 (.cons (.slot 0) .nil))) .nil))
abbrev d16 : FD := ⟨false, 1, 1, b16⟩
def b17 : CSs := (.cons (.asg (.name 2) (.ife (.cmp .lt (.slot 1) (.bt .len (.cons (.slot 0) .nil))) (.idx (.slot 0) (.slot 1)) (.bin .add (.bin .mul (.con (.int (31))) (.slot 1)) (.con (.int (7)))))) (.cons (.asg (.name 3) (.bin .mod (.bt .int (.cons (.bt .abs (.cons (.slot 2) .nil)) .nil)) (.bin .pow (.bin .pow (.con (.int (10))) (.con (.int (61)))) (.con (.int (11)))))) (.cons (.asg (.name 4) (.bin .add (.bin .add (.bin .add (.bin .mul (.bin .mod (.bt .int (.cons (.slot 3) .nil)) (.con (.int (2147483563)))) (.con (.int (39373)))) (.bin .mul (.con (.int (3001))) (.slot 1))) (.bin .mul (.con (.int (11))) (.bt .int (.cons (.cmp .lt (.slot 2) (.con (.int (0)))) .nil)))) (.con (.int (23))))) (.cons (.ret (.lst (.cons (.bt .max (.cons (.con (.int (0))) (.cons (.bin .sub (.slot 3) (.bin .pow (.con (.int (10))) (.con (.int (18))))) .nil))) (.cons (.bin .mod (.bt .int (.cons (.slot 4) .nil)) (.con (.int (2147483399)))) (.cons (.con (.int (0))) .nil))))) .nil))))
abbrev d17 : FD := ⟨false, 2, 5, b17⟩
def b18 : CSs := (.cons (.ifS (.cmp .gt (.idx (.slot 0) (.con (.int (0)))) (.con (.int (0)))) (.cons (.asg (.name 4) (.bin .mod (.bt .int (.cons (.idx (.slot 0) (.con (.int (0)))) .nil)) (.slot 1))) (.cons (.sets (.slot 0) (.con (.int (0))) (.bin .fdiv (.idx (.slot 0) (.con (.int (0)))) (.slot 1))) (.cons (.ret (.slot 4)) .nil))) .nil) (.cons (.sets (.slot 0) (.con (.int (2))) (.bin .add (.idx (.slot 0) (.con (.int (2)))) (.con (.int (1))))) (.cons (.asg (.name 2) (.bin .mod (.bt .int (.cons (.bin .add (.idx (.slot 0) (.con (.int (1)))) (.bin .mul (.con (.int (1000357))) (.idx (.slot 0) (.con (.int (2)))))) .nil)) (.con (.int (2305843009213693951))))) (.cons (.asg (.name 3) (.bin .add (.bin .mul (.bin .mod (.bt .int (.cons (.bin .mul (.slot 2) (.slot 2)) .nil)) (.con (.int (2305843009213693907)))) (.slot 2)) (.bin .mul (.con (.int (7919))) (.idx (.slot 0) (.con (.int (2))))))) (.cons (.asg (.name 3) (.bin .mod (.bt .int (.cons (.slot 3) .nil)) (.con (.int (2305843009213693921))))) (.cons (.ret (.bin .mod (.bt .int (.cons (.bin .fdiv (.slot 3) (.con (.int (4096)))) .nil)) (.slot 1))) .nil))))))
abbrev d18 : FD := ⟨false, 2, 5, b18⟩
def b19 : CSs := (.cons (.ret (.idx (.slot 1) (.call 18 (.cons (.slot 0) (.cons (.bt .len (.cons (.slot 1) .nil)) .nil))))) .nil)
abbrev d19 : FD := ⟨false, 2, 2, b19⟩
def b20 : CSs := (.cons (.ret (.andE (.isi (.slot 0) .int) (.andE (.notE (.isi (.slot 0) .bool)) (.cmp .ge (.slot 0) (.slot 1))))) .nil)
abbrev d20 : FD := ⟨false, 2, 2, b20⟩
def b21 : CSs := (.cons (.whileS (.cmp .gt (.slot 1) (.con (.int (0)))) (.cons (.par [0, 1] (.cons (.slot 1) (.cons (.bin .mod (.bt .int (.cons (.slot 0) .nil)) (.slot 1)) .nil))) .nil)) (.cons (.ret (.slot 0)) .nil))
abbrev d21 : FD := ⟨false, 2, 2, b21⟩
def b22 : CSs := (.cons (.ifS (.orE (.notE (.isi (.slot 0) .tuple)) (.cmp .ne (.bt .len (.cons (.slot 0) .nil)) (.con (.int (2))))) (.cons (.ret (.con (.bl false))) .nil) .nil) (.cons (.ifS (.orE (.notE (.call 20 (.cons (.idx (.slot 0) (.con (.int (0)))) (.cons (.con (.int (0))) .nil)))) (.notE (.call 20 (.cons (.idx (.slot 0) (.con (.int (1)))) (.cons (.con (.int (1))) .nil))))) (.cons (.ret (.con (.bl false))) .nil) .nil) (.cons (.ret (.cmp .eq (.call 21 (.cons (.idx (.slot 0) (.con (.int (0)))) (.cons (.idx (.slot 0) (.con (.int (1)))) .nil))) (.con (.int (1))))) .nil)))
abbrev d22 : FD := ⟨false, 1, 1, b22⟩
def b23 : CSs := (.cons (.tryS (.cons (.ret .act) .nil) (.cons 0 none (.cons (.ret (.con (.str (Str.ofString "no fraction")))) .nil) (.cons 1 (some 1) (.cons (.ret (.bin .add (.con (.str (Str.ofString "number "))) (.bt .repr (.cons (.xat 0) .nil)))) .nil) .nil))) .nil)
abbrev d23 : FD := ⟨true, 1, 2, b23⟩
def b24 : CSs := (.cons (.ifS (.orE (.notE (.isi (.slot 0) .str)) (.notE (.chain .le .le (.con (.int (1))) (.bt .len (.cons (.slot 0) .nil)) (.con (.int (8)))))) (.cons (.ret (.con (.bl false))) .nil) .nil) (.cons (.ret (.cmp .eq (.comp (.slot 1) [1] (.name 1) (.seq (.slot 0)) (.cons (.cmp .notin (.slot 1) (.con (.str (Str.ofString "abcdefghijklmnopqrstuvwxyz")))) .nil)) (.lst .nil))) .nil))
abbrev d24 : FD := ⟨false, 1, 2, b24⟩
def b25 : CSs := (.cons (.asg (.name 1) (.comp (.call 19 (.cons (.slot 0) (.cons (.bt .list (.cons (.con (.str (Str.ofString "abcxyzz"))) .nil)) .nil))) [2] (.name 2) (.rng (.call 18 (.cons (.slot 0) (.cons (.con (.int (10))) .nil)))) .nil)) (.cons (.ifS (.cmp .eq (.call 18 (.cons (.slot 0) (.cons (.con (.int (3))) .nil))) (.con (.int (0)))) (.cons (.expr (.bm .insert (.slot 1) (.cons (.call 18 (.cons (.slot 0) (.cons (.bin .add (.bt .len (.cons (.slot 1) .nil)) (.con (.int (1)))) .nil))) (.cons (.call 19 (.cons (.slot 0) (.cons (.lst (.cons (.con (.str (Str.ofString "A"))) (.cons (.con (.str (Str.ofString "1"))) (.cons (.con (.str (Str.ofString " "))) (.cons (.con (.str (Str.ofString "_"))) (.cons (.con (.str (Str.ofString "\n"))) (.cons (.con (.str (Str.ofString "-"))) .nil))))))) .nil))) .nil)))) .nil) .nil) (.cons (.ret (.bm .join (.con (.str (Str.ofString ""))) (.cons (.slot 1) .nil))) .nil)))
abbrev d25 : FD := ⟨false, 1, 3, b25⟩
def b26 : CSs := (.cons (.asg (.name 1) (.lst (.cons (.con (.int (0))) (.cons (.con (.int (1))) (.cons (.con (.int (2))) (.cons (.con (.int (3))) (.cons (.con (.int (4))) (.cons (.con (.int (6))) (.cons (.con (.int (12))) (.cons (.con (.int (60))) (.cons (.call 18 (.cons (.slot 0) (.cons (.con (.int (30))) .nil))) (.cons (.bin .add (.bin .pow (.con (.int (10))) (.con (.int (20)))) (.call 18 (.cons (.slot 0) (.cons (.con (.int (10))) .nil)))) (.cons (.bin .mul (.bin .pow (.con (.int (2))) (.con (.int (60)))) (.con (.int (3072)))) (.cons (.bin .pow (.con (.int (10))) (.con (.int (39)))) .nil)))))))))))))) (.cons (.ret (.call 19 (.cons (.slot 0) (.cons (.slot 1) .nil)))) .nil))
abbrev d26 : FD := ⟨false, 1, 2, b26⟩
def b27 : CSs := (.cons (.asg (.name 2) (.call 21 (.cons (.slot 0) (.cons (.slot 1) .nil)))) (.cons (.ret (.tup (.cons (.bin .fdiv (.slot 0) (.slot 2)) (.cons (.bin .fdiv (.slot 1) (.slot 2)) .nil)))) .nil))
abbrev d27 : FD := ⟨false, 2, 3, b27⟩
def b28 : CSs := (.cons (.ret (.call 27 (.cons (.call 26 (.cons (.slot 0) .nil)) (.cons (.bin .add (.con (.int (1))) (.call 26 (.cons (.slot 0) .nil))) .nil)))) .nil)
abbrev d28 : FD := ⟨false, 1, 1, b28⟩
def b29 : CSs := (.cons (.par [3, 4] (.cons (.call 26 (.cons (.slot 0) .nil)) (.cons (.call 26 (.cons (.slot 0) .nil)) .nil))) (.cons (.asg (.name 1) (.lst (.cons (.tup (.cons (.slot 3) (.cons (.slot 4) .nil))) (.cons (.tup (.cons (.slot 4) (.cons (.bin .add (.slot 3) (.con (.int (1)))) .nil))) (.cons (.tup (.cons (.slot 3) (.cons (.con (.int (1))) .nil))) (.cons (.tup (.cons (.slot 3) (.cons (.bin .add (.con (.int (1))) (.slot 4)) .nil))) (.cons (.lst (.cons (.con (.int (1))) (.cons (.con (.int (2))) .nil))) (.cons (.tup (.cons (.slot 3) .nil)) (.cons (.tup (.cons (.con (.int (1))) (.cons (.con (.int (2))) (.cons (.con (.int (3))) .nil)))) (.cons (.tup (.cons (.neg (.con (.int (1)))) (.cons (.con (.int (2))) .nil))) (.cons (.tup (.cons (.con (.int (1))) (.cons (.neg (.con (.int (2)))) .nil))) (.cons (.tup (.cons (.con (.int (0))) (.cons (.con (.int (2))) .nil))) .nil)))))))))))) (.cons (.asg (.name 1) (.bin .add (.slot 1) (.lst (.cons (.tup (.cons (.con (.bl true)) (.cons (.con (.int (1))) .nil))) (.cons (.tup (.cons (.con (.int (1))) (.cons (.con (.bl true)) .nil))) (.cons (.tup (.cons (.con .non) (.cons (.con (.int (1))) .nil))) (.cons (.tup (.cons (.con (.str (Str.ofString "1"))) (.cons (.con (.int (2))) .nil))) (.cons (.call 25 (.cons (.slot 0) .nil)) (.cons (.con .non) (.cons .edct (.cons (.tup (.cons (.tup (.cons (.con (.int (1))) (.cons (.con (.int (2))) .nil))) (.cons (.con (.int (3))) .nil))) (.cons (.tup (.cons (.con (.int (0))) (.cons (.con (.int (0))) .nil))) (.cons (.con (.int (3))) .nil))))))))))))) (.cons (.expr (.bm .append (.slot 1) (.cons (.tup (.cons (.con (.int (1))) (.cons (.lst (.cons (.con (.int (2))) .nil)) .nil))) .nil))) (.cons (.forS (.name 2) (.seq (.slot 1)) (.cons (.asg (.name 5) (.bt .repr (.cons (.slot 2) .nil))) (.cons (.ifS (.cmp .ne (.bt .repr (.cons (.lst (.cons (.call 4 (.cons (.slot 2) .nil)) (.cons (.call 2 (.cons (.slot 2) .nil)) .nil))) .nil)) (.bt .repr (.cons (.lst (.cons (.call 22 (.cons (.slot 2) .nil)) (.cons (.call 24 (.cons (.slot 2) .nil)) .nil))) .nil))) (.cons (.ret (.con (.bl false))) .nil) .nil) (.cons (.ifS (.notE (.call 22 (.cons (.slot 2) .nil))) (.cons (.asg (.name 6) (.lst (.cons (.lam 23 (.call 11 (.cons (.slot 2) (.cons (.tup (.cons (.con (.int (1))) (.cons (.con (.int (2))) .nil))) .nil)))) .nil))) (.cons (.expr (.bm .append (.slot 6) (.cons (.lam 23 (.call 10 (.cons (.tup (.cons (.con (.int (1))) (.cons (.con (.int (2))) .nil))) (.cons (.slot 2) .nil)))) .nil))) (.cons (.expr (.bm .append (.slot 6) (.cons (.lam 23 (.call 15 (.cons (.tup (.cons (.tup (.cons (.con (.int (1))) (.cons (.con (.int (2))) .nil))) (.cons (.slot 2) .nil))) .nil))) .nil))) (.cons (.expr (.bm .append (.slot 6) (.cons (.lam 23 (.call 16 (.cons (.tup (.cons (.slot 2) .nil)) .nil))) .nil))) (.cons (.ifS (.cmp .ne (.slot 6) (.bin .mul (.lst (.cons (.con (.str (Str.ofString "no fraction"))) .nil)) (.con (.int (4))))) (.cons (.ret (.con (.bl false))) .nil) .nil) .nil))))) .nil) (.cons (.ifS (.cmp .ne (.bt .repr (.cons (.slot 2) .nil)) (.slot 5)) (.cons (.ret (.con (.bl false))) .nil) .nil) .nil))))) (.cons (.ret (.con (.bl true))) .nil))))))
abbrev d29 : FD := ⟨false, 1, 7, b29⟩
def b30 : CSs := (.cons (.par [3, 4] (.cons (.call 26 (.cons (.slot 0) .nil)) (.cons (.bin .add (.con (.int (1))) (.call 26 (.cons (.slot 0) .nil))) .nil))) (.cons (.ifS (.orE (.cmp .ne (.call 9 (.cons (.slot 3) (.cons (.slot 4) .nil))) (.call 27 (.cons (.slot 3) (.cons (.slot 4) .nil)))) (.cmp .ne (.call 9 (.cons (.bin .mul (.con (.int (3))) (.slot 3)) (.cons (.bin .mul (.con (.int (3))) (.slot 4)) .nil))) (.call 27 (.cons (.slot 3) (.cons (.slot 4) .nil))))) (.cons (.ret (.con (.bl false))) .nil) .nil) (.cons (.par [5, 6] (.cons (.call 28 (.cons (.slot 0) .nil)) (.cons (.call 28 (.cons (.slot 0) .nil)) .nil))) (.cons (.ifS (.cmp .ne (.call 10 (.cons (.slot 5) (.cons (.slot 6) .nil))) (.call 27 (.cons (.bin .mul (.idx (.slot 5) (.con (.int (0)))) (.idx (.slot 6) (.con (.int (0))))) (.cons (.bin .mul (.idx (.slot 5) (.con (.int (1)))) (.idx (.slot 6) (.con (.int (1))))) .nil)))) (.cons (.ret (.con (.bl false))) .nil) .nil) (.cons (.asg (.name 1) (.bin .sub (.bin .mul (.idx (.slot 5) (.con (.int (0)))) (.idx (.slot 6) (.con (.int (1))))) (.bin .mul (.idx (.slot 6) (.con (.int (0)))) (.idx (.slot 5) (.con (.int (1))))))) (.cons (.ifS (.cmp .ne (.call 11 (.cons (.slot 5) (.cons (.slot 6) .nil))) (.ife (.cmp .eq (.slot 1) (.con (.int (0)))) (.con (.str (Str.ofString "equal"))) (.ife (.cmp .lt (.slot 1) (.con (.int (0)))) (.con (.str (Str.ofString "less"))) (.con (.str (Str.ofString "greater")))))) (.cons (.ret (.con (.bl false))) .nil) .nil) (.cons (.asg (.name 2) (.bt .tuple (.cons (.comp (.call 28 (.cons (.slot 0) .nil)) [9] (.name 9) (.rng (.call 18 (.cons (.slot 0) (.cons (.con (.int (6))) .nil)))) .nil) .nil))) (.cons (.asg (.tup (.cons (.name 7) (.cons (.name 8) .nil))) (.tup (.cons (.call 15 (.cons (.slot 2) .nil)) (.cons (.call 16 (.cons (.slot 2) .nil)) .nil)))) (.cons (.ifS (.cmp .eq (.slot 2) (.tup .nil)) (.cons (.ret (.andE (.isN (.slot 7)) (.isN (.slot 8)))) .nil) .nil) (.cons (.ifS (.orE (.cmp .notin (.slot 7) (.slot 2)) (.cmp .notin (.slot 8) (.slot 2))) (.cons (.ret (.con (.bl false))) .nil) .nil) (.cons (.ret (.cmp .eq (.comp (.con (.int (1))) [10, 11] (.tup (.cons (.name 10) (.cons (.name 11) .nil))) (.seq (.slot 2)) (.cons (.orE (.cmp .lt (.bin .mul (.slot 10) (.idx (.slot 7) (.con (.int (1))))) (.bin .mul (.idx (.slot 7) (.con (.int (0)))) (.slot 11))) (.cmp .gt (.bin .mul (.slot 10) (.idx (.slot 8) (.con (.int (1))))) (.bin .mul (.idx (.slot 8) (.con (.int (0)))) (.slot 11)))) .nil)) (.lst .nil))) .nil)))))))))))
abbrev d30 : FD := ⟨false, 1, 12, b30⟩
def b31 : CSs := (.cons (.asg (.name 1) (.call 19 (.cons (.slot 0) (.cons (.lst (.cons (.neg (.con (.int (1)))) (.cons (.con .non) (.cons (.con (.bl true)) (.cons (.con (.str (Str.ofString "1"))) (.cons (.tup .nil) (.cons (.lst .nil) (.cons (.neg (.bin .pow (.con (.int (10))) (.con (.int (39))))) (.cons .edct .nil))))))))) .nil)))) (.cons (.asg (.name 2) (.call 19 (.cons (.slot 0) (.cons (.lst (.cons (.con (.int (0))) (.cons (.neg (.con (.int (1)))) (.cons (.con .non) (.cons (.con (.bl true)) (.cons (.con (.str (Str.ofString "1"))) (.cons (.tup .nil) (.cons (.lst .nil) (.cons .edct .nil))))))))) .nil)))) (.cons (.asg (.name 3) (.lst (.cons (.lam 23 (.call 9 (.cons (.slot 1) (.cons (.slot 2) .nil)))) .nil))) (.cons (.expr (.bm .append (.slot 3) (.cons (.lam 23 (.call 9 (.cons (.slot 1) (.cons (.con (.int (1))) .nil)))) .nil))) (.cons (.expr (.bm .append (.slot 3) (.cons (.lam 23 (.call 9 (.cons (.con (.int (1))) (.cons (.slot 2) .nil)))) .nil))) (.cons (.ifS (.cmp .ne (.slot 3) (.bin .add (.bin .mul (.lst (.cons (.bin .add (.con (.str (Str.ofString "number "))) (.bt .repr (.cons (.slot 1) .nil))) .nil)) (.con (.int (2)))) (.lst (.cons (.bin .add (.con (.str (Str.ofString "number "))) (.bt .repr (.cons (.slot 2) .nil))) .nil)))) (.cons (.ret (.con (.bl false))) .nil) .nil) (.cons (.asg (.name 4) (.call 19 (.cons (.slot 0) (.cons (.lst (.cons (.con .non) (.cons (.tup (.cons (.con (.int (1))) (.cons (.con (.int (2))) .nil))) (.cons (.lst (.cons (.tup (.cons (.con (.int (1))) (.cons (.con (.int (2))) .nil))) .nil)) (.cons (.con (.str (Str.ofString "12"))) (.cons .edct (.cons (.con (.int (3))) (.cons (.tup (.cons (.tup (.cons (.con (.int (1))) (.cons (.con (.int (2))) .nil))) (.cons (.con .non) .nil))) (.cons (.tup (.cons (.tup (.cons (.con (.int (2))) (.cons (.con (.int (4))) .nil))) .nil)) (.cons (.tup (.cons (.tup (.cons (.con (.int (1))) (.cons (.con (.int (2))) .nil))) (.cons (.lst (.cons (.con (.int (1))) (.cons (.con (.int (2))) .nil))) .nil))) .nil)))))))))) .nil)))) (.cons (.asg (.name 3) (.lst (.cons (.lam 23 (.call 15 (.cons (.slot 4) .nil))) .nil))) (.cons (.expr (.bm .append (.slot 3) (.cons (.lam 23 (.call 16 (.cons (.slot 4) .nil))) .nil))) (.cons (.ret (.cmp .eq (.slot 3) (.bin .mul (.lst (.cons (.con (.str (Str.ofString "no fraction"))) .nil)) (.con (.int (2)))))) .nil))))))))))
abbrev d31 : FD := ⟨false, 1, 5, b31⟩
def b32 : CSs := (.cons (.forS (.name 1) (.rng (.bt .max (.cons (.con (.int (1))) (.cons (.bt .min (.cons (.con (.int (8))) (.cons (.bt .len (.cons (.slot 0) .nil)) .nil))) .nil)))) (.cons (.asg (.name 5) (.call 17 (.cons (.slot 0) (.cons (.slot 1) .nil)))) (.cons (.forS (.name 6) (.rng (.con (.int (4)))) (.cons (.ifS (.orE (.notE (.call 29 (.cons (.slot 5) .nil))) (.orE (.notE (.call 30 (.cons (.slot 5) .nil))) (.notE (.call 31 (.cons (.slot 5) .nil))))) (.cons (.ret (.con (.bl false))) .nil) .nil) .nil)) .nil))) (.cons (.asg (.name 2) (.lst (.cons (.call 9 (.cons (.con (.int (0))) (.cons (.con (.int (9))) .nil))) (.cons (.call 9 (.cons (.con (.int (7))) (.cons (.con (.int (7))) .nil))) (.cons (.call 4 (.cons (.tup (.cons (.con (.int (0))) (.cons (.con (.int (1))) .nil))) .nil)) (.cons (.call 4 (.cons (.tup (.cons (.con (.int (0))) (.cons (.con (.int (3))) .nil))) .nil)) (.cons (.call 2 (.cons (.con (.str (Str.ofString "abcdefgh"))) .nil)) .nil))))))) (.cons (.ifS (.orE (.cmp .ne (.slot 2) (.lst (.cons (.tup (.cons (.con (.int (0))) (.cons (.con (.int (1))) .nil))) (.cons (.tup (.cons (.con (.int (1))) (.cons (.con (.int (1))) .nil))) (.cons (.con (.bl true)) (.cons (.con (.bl false)) (.cons (.con (.bl true)) .nil))))))) (.call 2 (.cons (.con (.str (Str.ofString "abcdefghi"))) .nil))) (.cons (.ret (.con (.bl false))) .nil) .nil) (.cons (.ifS (.cmp .ne (.lst (.cons (.call 11 (.cons (.tup (.cons (.bin .pow (.con (.int (10))) (.con (.int (39)))) (.cons (.con (.int (7))) .nil))) (.cons (.tup (.cons (.bin .pow (.con (.int (10))) (.con (.int (39)))) (.cons (.con (.int (3))) .nil))) .nil))) (.cons (.call 11 (.cons (.tup (.cons (.bin .add (.bin .pow (.con (.int (10))) (.con (.int (39)))) (.con (.int (1)))) (.cons (.bin .pow (.con (.int (10))) (.con (.int (39)))) .nil))) (.cons (.tup (.cons (.con (.int (1))) (.cons (.con (.int (1))) .nil))) .nil))) .nil))) (.lst (.cons (.con (.str (Str.ofString "less"))) (.cons (.con (.str (Str.ofString "greater"))) .nil)))) (.cons (.ret (.con (.bl false))) .nil) .nil) (.cons (.ifS (.orE (.call 2 (.cons (.con (.str (Str.ofString "abc\n"))) .nil)) (.orE (.call 2 (.cons (.con (.str (Str.ofString "\nabc"))) .nil)) (.call 2 (.cons (.con (.str (Str.ofString "a b"))) .nil)))) (.cons (.ret (.con (.bl false))) .nil) .nil) (.cons (.asg (.name 3) (.tup (.cons (.tup (.cons (.con (.int (1))) (.cons (.con (.int (1))) .nil))) (.cons (.tup (.cons (.bin .sub (.bin .pow (.con (.int (10))) (.con (.int (39)))) (.con (.int (1)))) (.cons (.bin .pow (.con (.int (10))) (.con (.int (39)))) .nil))) (.cons (.tup (.cons (.bin .pow (.con (.int (10))) (.con (.int (39)))) (.cons (.bin .sub (.bin .pow (.con (.int (10))) (.con (.int (39)))) (.con (.int (1)))) .nil))) .nil))))) (.cons (.forS (.name 4) (.seq (.tup (.cons (.slot 3) (.cons (.rev (.slot 3)) .nil)))) (.cons (.ifS (.cmp .ne (.lst (.cons (.call 15 (.cons (.slot 4) .nil)) (.cons (.call 16 (.cons (.slot 4) .nil)) .nil))) (.lst (.cons (.idx (.slot 3) (.con (.int (1)))) (.cons (.idx (.slot 3) (.con (.int (2)))) .nil)))) (.cons (.ret (.con (.bl false))) .nil) .nil) .nil)) (.cons (.ret (.cmp .eq (.lst (.cons (.call 15 (.cons (.tup (.cons (.tup (.cons (.con (.int (2))) (.cons (.con (.int (3))) .nil))) (.cons (.tup (.cons (.con (.int (3))) (.cons (.con (.int (5))) .nil))) (.cons (.tup (.cons (.con (.int (5))) (.cons (.con (.int (8))) .nil))) .nil)))) .nil)) (.cons (.call 16 (.cons (.tup (.cons (.tup (.cons (.con (.int (2))) (.cons (.con (.int (3))) .nil))) (.cons (.tup (.cons (.con (.int (3))) (.cons (.con (.int (4))) .nil))) (.cons (.tup (.cons (.con (.int (5))) (.cons (.con (.int (7))) .nil))) .nil)))) .nil)) .nil))) (.lst (.cons (.tup (.cons (.con (.int (3))) (.cons (.con (.int (5))) .nil))) (.cons (.tup (.cons (.con (.int (3))) (.cons (.con (.int (4))) .nil))) .nil))))) .nil))))))))
abbrev d32 : FD := ⟨false, 1, 7, b32⟩
def sub : Nat → Nat → Bool
  | 0, 0 => true
  | 0, 1 => false
  | 1, 0 => false
  | 1, 1 => true
  | _, _ => false
def pg : Pg := { fns := [d0, d1, d2, d3, d4, d5, d6, d7, d8, d9, d10, d11, d12, d13, d14, d15, d16, d17, d18, d19, d20, d21, d22, d23, d24, d25, d26, d27, d28, d29, d30, d31, d32], sub := sub, W := 10 ^ 5000 }
theorem t0 : DefT gb (Str.ofString "is_integer") (topS 10) d0 false := ⟨[(Str.ofString "value")], [(Str.ofString "value")], 300, by decide +kernel, rfl, rfl, fun _ _ _ _ _ _ us hl => match us, hl with | [_], _ => rfl, fun _ => (by kernel_rfl), fun h => (by cases h), fun h => absurd h (by decide +kernel)⟩
theorem t1 : DefT gb (Str.ofString "is_between") (topS 11) d1 false := ⟨[(Str.ofString "value"), (Str.ofString "low"), (Str.ofString "high")], [(Str.ofString "value"), (Str.ofString "low"), (Str.ofString "high")], 300, by decide +kernel, rfl, rfl, fun _ _ _ _ _ _ us hl => match us, hl with | [_, _, _], _ => rfl, fun _ => (by kernel_rfl), fun h => (by cases h), fun h => absurd h (by decide +kernel)⟩
theorem t2 : DefT gb (Str.ofString "is_name") (topS 12) d2 false := ⟨[(Str.ofString "value"), (Str.ofString "sign")], [(Str.ofString "value")], 300, by decide +kernel, rfl, rfl, fun _ _ _ _ _ _ us hl => match us, hl with | [_], _ => rfl, fun _ => (by kernel_rfl), fun h => (by cases h), fun h => absurd h (by decide +kernel)⟩
theorem t3 : DefT gb (Str.ofString "common_divisor") (topS 13) d3 false := ⟨[(Str.ofString "number"), (Str.ofString "other")], [(Str.ofString "number"), (Str.ofString "other")], 300, by decide +kernel, rfl, rfl, fun _ _ _ _ _ _ us hl => match us, hl with | [_, _], _ => rfl, fun _ => (by kernel_rfl), fun h => (by cases h), fun h => absurd h (by decide +kernel)⟩
theorem t4 : DefT gb (Str.ofString "is_fraction") (topS 14) d4 false := ⟨[(Str.ofString "value")], [(Str.ofString "value")], 300, by decide +kernel, rfl, rfl, fun _ _ _ _ _ _ us hl => match us, hl with | [_], _ => rfl, fun _ => (by kernel_rfl), fun h => (by cases h), fun h => absurd h (by decide +kernel)⟩
theorem t5 : DefT gb (Str.ofString "require_fraction") (topS 15) d5 false := ⟨[(Str.ofString "value")], [(Str.ofString "value")], 300, by decide +kernel, rfl, rfl, fun _ _ _ _ _ _ us hl => match us, hl with | [_], _ => rfl, fun _ => (by kernel_rfl), fun h => (by cases h), fun h => absurd h (by decide +kernel)⟩
theorem t6 : DefT gb (Str.ofString "reduced") (topS 16) d6 false := ⟨[(Str.ofString "number"), (Str.ofString "other"), (Str.ofString "divisor")], [(Str.ofString "number"), (Str.ofString "other")], 300, by decide +kernel, rfl, rfl, fun _ _ _ _ _ _ us hl => match us, hl with | [_, _], _ => rfl, fun _ => (by kernel_rfl), fun h => (by cases h), fun h => absurd h (by decide +kernel)⟩
theorem t7 : DefT gb (Str.ofString "less_than") (topS 17) d7 false := ⟨[(Str.ofString "one"), (Str.ofString "two")], [(Str.ofString "one"), (Str.ofString "two")], 300, by decide +kernel, rfl, rfl, fun _ _ _ _ _ _ us hl => match us, hl with | [_, _], _ => rfl, fun _ => (by kernel_rfl), fun h => (by cases h), fun h => absurd h (by decide +kernel)⟩
theorem t8 : DefT gb (Str.ofString "product_in") (topS 18) d8 false := ⟨[(Str.ofString "one"), (Str.ofString "two")], [(Str.ofString "one"), (Str.ofString "two")], 300, by decide +kernel, rfl, rfl, fun _ _ _ _ _ _ us hl => match us, hl with | [_, _], _ => rfl, fun _ => (by kernel_rfl), fun h => (by cases h), fun h => absurd h (by decide +kernel)⟩
theorem t9 : DefT gb (Str.ofString "make_fraction") (topS 19) d9 false := ⟨[(Str.ofString "number"), (Str.ofString "other")], [(Str.ofString "number"), (Str.ofString "other")], 300, by decide +kernel, rfl, rfl, fun _ _ _ _ _ _ us hl => match us, hl with | [_, _], _ => rfl, fun _ => (by kernel_rfl), fun h => (by cases h), fun h => absurd h (by decide +kernel)⟩
theorem t10 : DefT gb (Str.ofString "fraction_product") (topS 20) d10 false := ⟨[(Str.ofString "one"), (Str.ofString "two")], [(Str.ofString "one"), (Str.ofString "two")], 300, by decide +kernel, rfl, rfl, fun _ _ _ _ _ _ us hl => match us, hl with | [_, _], _ => rfl, fun _ => (by kernel_rfl), fun h => (by cases h), fun h => absurd h (by decide +kernel)⟩
theorem t11 : DefT gb (Str.ofString "compared") (topS 21) d11 false := ⟨[(Str.ofString "one"), (Str.ofString "two")], [(Str.ofString "one"), (Str.ofString "two")], 300, by decide +kernel, rfl, rfl, fun _ _ _ _ _ _ us hl => match us, hl with | [_, _], _ => rfl, fun _ => (by kernel_rfl), fun h => (by cases h), fun h => absurd h (by decide +kernel)⟩
theorem t12 : DefT gb (Str.ofString "require_fractions") (topS 22) d12 false := ⟨[(Str.ofString "fractions"), (Str.ofString "value")], [(Str.ofString "fractions")], 300, by decide +kernel, rfl, rfl, fun _ _ _ _ _ _ us hl => match us, hl with | [_], _ => rfl, fun _ => (by kernel_rfl), fun h => (by cases h), fun h => absurd h (by decide +kernel)⟩
theorem t13 : DefT gb (Str.ofString "least_in") (topS 23) d13 false := ⟨[(Str.ofString "fractions"), (Str.ofString "found"), (Str.ofString "one")], [(Str.ofString "fractions")], 300, by decide +kernel, rfl, rfl, fun _ _ _ _ _ _ us hl => match us, hl with | [_], _ => rfl, fun _ => (by kernel_rfl), fun h => (by cases h), fun h => absurd h (by decide +kernel)⟩
theorem t14 : DefT gb (Str.ofString "greatest_in") (topS 24) d14 false := ⟨[(Str.ofString "fractions"), (Str.ofString "found"), (Str.ofString "one")], [(Str.ofString "fractions")], 300, by decide +kernel, rfl, rfl, fun _ _ _ _ _ _ us hl => match us, hl with | [_], _ => rfl, fun _ => (by kernel_rfl), fun h => (by cases h), fun h => absurd h (by decide +kernel)⟩
theorem t15 : DefT gb (Str.ofString "least_fraction") (topS 25) d15 false := ⟨[(Str.ofString "fractions")], [(Str.ofString "fractions")], 300, by decide +kernel, rfl, rfl, fun _ _ _ _ _ _ us hl => match us, hl with | [_], _ => rfl, fun _ => (by kernel_rfl), fun h => (by cases h), fun h => absurd h (by decide +kernel)⟩
theorem t16 : DefT gb (Str.ofString "greatest_fraction") (topS 26) d16 false := ⟨[(Str.ofString "fractions")], [(Str.ofString "fractions")], 300, by decide +kernel, rfl, rfl, fun _ _ _ _ _ _ us hl => match us, hl with | [_], _ => rfl, fun _ => (by kernel_rfl), fun h => (by cases h), fun h => absurd h (by decide +kernel)⟩
theorem t17 : DefT gb (Str.ofString "_law_start") (topS 28) d17 false := ⟨[(Str.ofString "_law_script"), (Str.ofString "_law_at"), (Str.ofString "_law_cell"), (Str.ofString "_law_great"), (Str.ofString "_law_mixed")], [(Str.ofString "_law_script"), (Str.ofString "_law_at")], 300, by decide +kernel, rfl, rfl, fun _ _ _ _ _ _ us hl => match us, hl with | [_, _], _ => rfl, fun _ => (by kernel_rfl), fun h => (by cases h), fun h => absurd h (by decide +kernel)⟩
theorem t18 : DefT gb (Str.ofString "_law_throw") (topS 29) d18 false := ⟨[(Str.ofString "_law_bag"), (Str.ofString "_law_total"), (Str.ofString "_law_one"), (Str.ofString "_law_two"), (Str.ofString "_law_found")], [(Str.ofString "_law_bag"), (Str.ofString "_law_total")], 300, by decide +kernel, rfl, rfl, fun _ _ _ _ _ _ us hl => match us, hl with | [_, _], _ => rfl, fun _ => (by kernel_rfl), fun h => (by cases h), fun h => absurd h (by decide +kernel)⟩
theorem t19 : DefT gb (Str.ofString "_law_pick") (topS 30) d19 false := ⟨[(Str.ofString "_law_bag"), (Str.ofString "_law_items")], [(Str.ofString "_law_bag"), (Str.ofString "_law_items")], 300, by decide +kernel, rfl, rfl, fun _ _ _ _ _ _ us hl => match us, hl with | [_, _], _ => rfl, fun _ => (by kernel_rfl), fun h => (by cases h), fun h => absurd h (by decide +kernel)⟩
theorem t20 : DefT gb (Str.ofString "_law_whole") (topS 31) d20 false := ⟨[(Str.ofString "_law_value"), (Str.ofString "_law_low")], [(Str.ofString "_law_value"), (Str.ofString "_law_low")], 300, by decide +kernel, rfl, rfl, fun _ _ _ _ _ _ us hl => match us, hl with | [_, _], _ => rfl, fun _ => (by kernel_rfl), fun h => (by cases h), fun h => absurd h (by decide +kernel)⟩
theorem t21 : DefT gb (Str.ofString "_law_divisor") (topS 32) d21 false := ⟨[(Str.ofString "_law_one"), (Str.ofString "_law_other")], [(Str.ofString "_law_one"), (Str.ofString "_law_other")], 300, by decide +kernel, rfl, rfl, fun _ _ _ _ _ _ us hl => match us, hl with | [_, _], _ => rfl, fun _ => (by kernel_rfl), fun h => (by cases h), fun h => absurd h (by decide +kernel)⟩
theorem t22 : DefT gb (Str.ofString "_law_is_fraction") (topS 33) d22 false := ⟨[(Str.ofString "_law_value")], [(Str.ofString "_law_value")], 300, by decide +kernel, rfl, rfl, fun _ _ _ _ _ _ us hl => match us, hl with | [_], _ => rfl, fun _ => (by kernel_rfl), fun h => (by cases h), fun h => absurd h (by decide +kernel)⟩
theorem t23 : DefT gb (Str.ofString "_law_met") (topS 34) d23 false := ⟨[(Str.ofString "_law_call"), (Str.ofString "e")], [(Str.ofString "_law_call")], 300, by decide +kernel, rfl, rfl, fun _ _ _ _ _ _ us hl => match us, hl with | [_], _ => rfl, fun h => (by cases h), fun _ => ⟨(Str.ofString "_law_call"), rfl, rfl, .inl (by rfl), by decide +kernel, by decide +kernel, by kernel_rfl⟩, fun _ => rfl⟩
theorem t24 : DefT gb (Str.ofString "_law_is_name") (topS 35) d24 false := ⟨[(Str.ofString "_law_value"), (Str.ofString "_law_sign")], [(Str.ofString "_law_value")], 300, by decide +kernel, rfl, rfl, fun _ _ _ _ _ _ us hl => match us, hl with | [_], _ => rfl, fun _ => (by kernel_rfl), fun h => (by cases h), fun h => absurd h (by decide +kernel)⟩
theorem t25 : DefT gb (Str.ofString "_law_word") (topS 36) d25 false := ⟨[(Str.ofString "_law_bag"), (Str.ofString "_law_signs"), (Str.ofString "_law_turn")], [(Str.ofString "_law_bag")], 300, by decide +kernel, rfl, rfl, fun _ _ _ _ _ _ us hl => match us, hl with | [_], _ => rfl, fun _ => (by kernel_rfl), fun h => (by cases h), fun h => absurd h (by decide +kernel)⟩
theorem t26 : DefT gb (Str.ofString "_law_number") (topS 37) d26 false := ⟨[(Str.ofString "_law_bag"), (Str.ofString "_law_some")], [(Str.ofString "_law_bag")], 300, by decide +kernel, rfl, rfl, fun _ _ _ _ _ _ us hl => match us, hl with | [_], _ => rfl, fun _ => (by kernel_rfl), fun h => (by cases h), fun h => absurd h (by decide +kernel)⟩
theorem t27 : DefT gb (Str.ofString "_law_lowest") (topS 38) d27 false := ⟨[(Str.ofString "_law_one"), (Str.ofString "_law_other"), (Str.ofString "_law_divisor_here")], [(Str.ofString "_law_one"), (Str.ofString "_law_other")], 300, by decide +kernel, rfl, rfl, fun _ _ _ _ _ _ us hl => match us, hl with | [_, _], _ => rfl, fun _ => (by kernel_rfl), fun h => (by cases h), fun h => absurd h (by decide +kernel)⟩
theorem t28 : DefT gb (Str.ofString "_law_drawn_fraction") (topS 39) d28 false := ⟨[(Str.ofString "_law_bag")], [(Str.ofString "_law_bag")], 300, by decide +kernel, rfl, rfl, fun _ _ _ _ _ _ us hl => match us, hl with | [_], _ => rfl, fun _ => (by kernel_rfl), fun h => (by cases h), fun h => absurd h (by decide +kernel)⟩
theorem t29 : DefT gb (Str.ofString "_law_values_right") (topS 40) d29 true := ⟨[(Str.ofString "_law_bag"), (Str.ofString "_law_some"), (Str.ofString "_law_value"), (Str.ofString "_law_one"), (Str.ofString "_law_two"), (Str.ofString "_law_before"), (Str.ofString "_law_found")], [(Str.ofString "_law_bag")], 300, by decide +kernel, rfl, rfl, fun _ _ _ _ _ _ us hl => match us, hl with | [_], _ => rfl, fun _ => (by kernel_rfl), fun h => (by cases h), fun h => absurd h (by decide +kernel)⟩
theorem t30 : DefT gb (Str.ofString "_law_sums_right") (topS 41) d30 false := ⟨[(Str.ofString "_law_bag"), (Str.ofString "_law_way"), (Str.ofString "_law_some"), (Str.ofString "_law_one"), (Str.ofString "_law_two"), (Str.ofString "_law_low"), (Str.ofString "_law_high"), (Str.ofString "_law_told"), (Str.ofString "_law_most"), (Str.ofString "_law_turn"), (Str.ofString "_law_p"), (Str.ofString "_law_q")], [(Str.ofString "_law_bag")], 300, by decide +kernel, rfl, rfl, fun _ _ _ _ _ _ us hl => match us, hl with | [_], _ => rfl, fun _ => (by kernel_rfl), fun h => (by cases h), fun h => absurd h (by decide +kernel)⟩
theorem t31 : DefT gb (Str.ofString "_law_refused_right") (topS 42) d31 true := ⟨[(Str.ofString "_law_bag"), (Str.ofString "_law_low"), (Str.ofString "_law_high"), (Str.ofString "_law_found"), (Str.ofString "_law_odd")], [(Str.ofString "_law_bag")], 300, by decide +kernel, rfl, rfl, fun _ _ _ _ _ _ us hl => match us, hl with | [_], _ => rfl, fun _ => (by kernel_rfl), fun h => (by cases h), fun h => absurd h (by decide +kernel)⟩
theorem t32 : DefT gb (Str.ofString "law") (topS 43) d32 false := ⟨[(Str.ofString "_law_script"), (Str.ofString "_law_at"), (Str.ofString "_law_told"), (Str.ofString "_law_near"), (Str.ofString "_law_some"), (Str.ofString "_law_bag"), (Str.ofString "_law_turn")], [(Str.ofString "_law_script")], 300, by decide +kernel, rfl, rfl, fun _ _ _ _ _ _ us hl => match us, hl with | [_], _ => rfl, fun _ => (by kernel_rfl), fun h => (by cases h), fun h => absurd h (by decide +kernel)⟩
theorem linked {P : Program} {w : World} {K : PySem.W.Frag} {h : Heap} {mg mb : Str → Option Value} {mean : ExcName → Option Value} {q : Program} {loose : List Str} (X : K.In h) (T : Top q loose mean mg mb h)
    {f0 : Addr} {oc0 kV0 dc0 pm0 ct0 : Value} {od0 an0 : Option Addr} {sl0 : Array (Option Value)} {cd0 : Value} {f1 : Addr} {oc1 kV1 dc1 pm1 ct1 : Value} {od1 an1 : Option Addr} {sl1 : Array (Option Value)} {cd1 : Value} {f2 : Addr} {oc2 kV2 dc2 pm2 ct2 : Value} {od2 an2 : Option Addr} {sl2 : Array (Option Value)} {cd2 : Value} {f3 : Addr} {oc3 kV3 dc3 pm3 ct3 : Value} {od3 an3 : Option Addr} {sl3 : Array (Option Value)} {cd3 : Value} {f4 : Addr} {oc4 kV4 dc4 pm4 ct4 : Value} {od4 an4 : Option Addr} {sl4 : Array (Option Value)} {cd4 : Value} {f5 : Addr} {oc5 kV5 dc5 pm5 ct5 : Value} {od5 an5 : Option Addr} {sl5 : Array (Option Value)} {cd5 : Value} {f6 : Addr} {oc6 kV6 dc6 pm6 ct6 : Value} {od6 an6 : Option Addr} {sl6 : Array (Option Value)} {cd6 : Value} {f7 : Addr} {oc7 kV7 dc7 pm7 ct7 : Value} {od7 an7 : Option Addr} {sl7 : Array (Option Value)} {cd7 : Value} {f8 : Addr} {oc8 kV8 dc8 pm8 ct8 : Value} {od8 an8 : Option Addr} {sl8 : Array (Option Value)} {cd8 : Value} {f9 : Addr} {oc9 kV9 dc9 pm9 ct9 : Value} {od9 an9 : Option Addr} {sl9 : Array (Option Value)} {cd9 : Value} {f10 : Addr} {oc10 kV10 dc10 pm10 ct10 : Value} {od10 an10 : Option Addr} {sl10 : Array (Option Value)} {cd10 : Value} {f11 : Addr} {oc11 kV11 dc11 pm11 ct11 : Value} {od11 an11 : Option Addr} {sl11 : Array (Option Value)} {cd11 : Value} {f12 : Addr} {oc12 kV12 dc12 pm12 ct12 : Value} {od12 an12 : Option Addr} {sl12 : Array (Option Value)} {cd12 : Value} {f13 : Addr} {oc13 kV13 dc13 pm13 ct13 : Value} {od13 an13 : Option Addr} {sl13 : Array (Option Value)} {cd13 : Value} {f14 : Addr} {oc14 kV14 dc14 pm14 ct14 : Value} {od14 an14 : Option Addr} {sl14 : Array (Option Value)} {cd14 : Value} {f15 : Addr} {oc15 kV15 dc15 pm15 ct15 : Value} {od15 an15 : Option Addr} {sl15 : Array (Option Value)} {cd15 : Value} {f16 : Addr} {oc16 kV16 dc16 pm16 ct16 : Value} {od16 an16 : Option Addr} {sl16 : Array (Option Value)} {cd16 : Value} {f17 : Addr} {oc17 kV17 dc17 pm17 ct17 : Value} {od17 an17 : Option Addr} {sl17 : Array (Option Value)} {cd17 : Value} {f18 : Addr} {oc18 kV18 dc18 pm18 ct18 : Value} {od18 an18 : Option Addr} {sl18 : Array (Option Value)} {cd18 : Value} {f19 : Addr} {oc19 kV19 dc19 pm19 ct19 : Value} {od19 an19 : Option Addr} {sl19 : Array (Option Value)} {cd19 : Value} {f20 : Addr} {oc20 kV20 dc20 pm20 ct20 : Value} {od20 an20 : Option Addr} {sl20 : Array (Option Value)} {cd20 : Value} {f21 : Addr} {oc21 kV21 dc21 pm21 ct21 : Value} {od21 an21 : Option Addr} {sl21 : Array (Option Value)} {cd21 : Value} {f22 : Addr} {oc22 kV22 dc22 pm22 ct22 : Value} {od22 an22 : Option Addr} {sl22 : Array (Option Value)} {cd22 : Value} {f23 : Addr} {oc23 kV23 dc23 pm23 ct23 : Value} {od23 an23 : Option Addr} {sl23 : Array (Option Value)} {cd23 : Value} {f24 : Addr} {oc24 kV24 dc24 pm24 ct24 : Value} {od24 an24 : Option Addr} {sl24 : Array (Option Value)} {cd24 : Value} {f25 : Addr} {oc25 kV25 dc25 pm25 ct25 : Value} {od25 an25 : Option Addr} {sl25 : Array (Option Value)} {cd25 : Value} {f26 : Addr} {oc26 kV26 dc26 pm26 ct26 : Value} {od26 an26 : Option Addr} {sl26 : Array (Option Value)} {cd26 : Value} {f27 : Addr} {oc27 kV27 dc27 pm27 ct27 : Value} {od27 an27 : Option Addr} {sl27 : Array (Option Value)} {cd27 : Value} {f28 : Addr} {oc28 kV28 dc28 pm28 ct28 : Value} {od28 an28 : Option Addr} {sl28 : Array (Option Value)} {cd28 : Value} {f29 : Addr} {oc29 kV29 dc29 pm29 ct29 : Value} {od29 an29 : Option Addr} {sl29 : Array (Option Value)} {c29 P29 : Addr} {xoc29 : Value} {xod29 : Option Addr} {xsl29 : Array (Option Value)} {xvs29 : Array Value} {f30 : Addr} {oc30 kV30 dc30 pm30 ct30 : Value} {od30 an30 : Option Addr} {sl30 : Array (Option Value)} {cd30 : Value} {f31 : Addr} {oc31 kV31 dc31 pm31 ct31 : Value} {od31 an31 : Option Addr} {sl31 : Array (Option Value)} {c31 P31 : Addr} {xoc31 : Value} {xod31 : Option Addr} {xsl31 : Array (Option Value)} {xvs31 : Array Value} {f32 : Addr} {oc32 kV32 dc32 pm32 ct32 : Value} {od32 an32 : Option Addr} {sl32 : Array (Option Value)} {cd32 : Value} {tk_LETTERS : Tok} {tk_MOST_LETTERS : Tok} {tk_LESS : Tok} {tk_EQUAL : Tok} {tk_GREATER : Tok} {C0 : Addr} {C1 : Addr} {I1 : Addr} {ioc1 ikV1 idc1 ipm1 icd1 ict1 : Value} {iod1 ian1 idd1 : Option Addr} {isl1 csl1 : Array (Option Value)} {cdt1 : Data}
    (a0 : PySem.W.nsIn K mainGlobals (Str.ofString "is_integer") = some (some (.ref f0)))
    (l0 : K.lookup f0 = some ⟨oc0, od0, .func (PySem.W.fnOf (Str.ofString "is_integer") (Str.ofString "is_integer") (defArgs (topS 10)) (defBody (topS 10)) (defScope (topS 10)) .none kV0 dc0 pm0 an0 cd0 ct0), sl0⟩)
    (e0 : PySem.W.codeIn K cd0 (Str.ofString "is_integer") = true)
    (k0 : PySem.W.keepIn K (.ref f0) = true)
    (a1 : PySem.W.nsIn K mainGlobals (Str.ofString "is_between") = some (some (.ref f1)))
    (l1 : K.lookup f1 = some ⟨oc1, od1, .func (PySem.W.fnOf (Str.ofString "is_between") (Str.ofString "is_between") (defArgs (topS 11)) (defBody (topS 11)) (defScope (topS 11)) .none kV1 dc1 pm1 an1 cd1 ct1), sl1⟩)
    (e1 : PySem.W.codeIn K cd1 (Str.ofString "is_between") = true)
    (k1 : PySem.W.keepIn K (.ref f1) = true)
    (a2 : PySem.W.nsIn K mainGlobals (Str.ofString "is_name") = some (some (.ref f2)))
    (l2 : K.lookup f2 = some ⟨oc2, od2, .func (PySem.W.fnOf (Str.ofString "is_name") (Str.ofString "is_name") (defArgs (topS 12)) (defBody (topS 12)) (defScope (topS 12)) .none kV2 dc2 pm2 an2 cd2 ct2), sl2⟩)
    (e2 : PySem.W.codeIn K cd2 (Str.ofString "is_name") = true)
    (k2 : PySem.W.keepIn K (.ref f2) = true)
    (a3 : PySem.W.nsIn K mainGlobals (Str.ofString "common_divisor") = some (some (.ref f3)))
    (l3 : K.lookup f3 = some ⟨oc3, od3, .func (PySem.W.fnOf (Str.ofString "common_divisor") (Str.ofString "common_divisor") (defArgs (topS 13)) (defBody (topS 13)) (defScope (topS 13)) .none kV3 dc3 pm3 an3 cd3 ct3), sl3⟩)
    (e3 : PySem.W.codeIn K cd3 (Str.ofString "common_divisor") = true)
    (k3 : PySem.W.keepIn K (.ref f3) = true)
    (a4 : PySem.W.nsIn K mainGlobals (Str.ofString "is_fraction") = some (some (.ref f4)))
    (l4 : K.lookup f4 = some ⟨oc4, od4, .func (PySem.W.fnOf (Str.ofString "is_fraction") (Str.ofString "is_fraction") (defArgs (topS 14)) (defBody (topS 14)) (defScope (topS 14)) .none kV4 dc4 pm4 an4 cd4 ct4), sl4⟩)
    (e4 : PySem.W.codeIn K cd4 (Str.ofString "is_fraction") = true)
    (k4 : PySem.W.keepIn K (.ref f4) = true)
    (a5 : PySem.W.nsIn K mainGlobals (Str.ofString "require_fraction") = some (some (.ref f5)))
    (l5 : K.lookup f5 = some ⟨oc5, od5, .func (PySem.W.fnOf (Str.ofString "require_fraction") (Str.ofString "require_fraction") (defArgs (topS 15)) (defBody (topS 15)) (defScope (topS 15)) .none kV5 dc5 pm5 an5 cd5 ct5), sl5⟩)
    (e5 : PySem.W.codeIn K cd5 (Str.ofString "require_fraction") = true)
    (k5 : PySem.W.keepIn K (.ref f5) = true)
    (a6 : PySem.W.nsIn K mainGlobals (Str.ofString "reduced") = some (some (.ref f6)))
    (l6 : K.lookup f6 = some ⟨oc6, od6, .func (PySem.W.fnOf (Str.ofString "reduced") (Str.ofString "reduced") (defArgs (topS 16)) (defBody (topS 16)) (defScope (topS 16)) .none kV6 dc6 pm6 an6 cd6 ct6), sl6⟩)
    (e6 : PySem.W.codeIn K cd6 (Str.ofString "reduced") = true)
    (k6 : PySem.W.keepIn K (.ref f6) = true)
    (a7 : PySem.W.nsIn K mainGlobals (Str.ofString "less_than") = some (some (.ref f7)))
    (l7 : K.lookup f7 = some ⟨oc7, od7, .func (PySem.W.fnOf (Str.ofString "less_than") (Str.ofString "less_than") (defArgs (topS 17)) (defBody (topS 17)) (defScope (topS 17)) .none kV7 dc7 pm7 an7 cd7 ct7), sl7⟩)
    (e7 : PySem.W.codeIn K cd7 (Str.ofString "less_than") = true)
    (k7 : PySem.W.keepIn K (.ref f7) = true)
    (a8 : PySem.W.nsIn K mainGlobals (Str.ofString "product_in") = some (some (.ref f8)))
    (l8 : K.lookup f8 = some ⟨oc8, od8, .func (PySem.W.fnOf (Str.ofString "product_in") (Str.ofString "product_in") (defArgs (topS 18)) (defBody (topS 18)) (defScope (topS 18)) .none kV8 dc8 pm8 an8 cd8 ct8), sl8⟩)
    (e8 : PySem.W.codeIn K cd8 (Str.ofString "product_in") = true)
    (k8 : PySem.W.keepIn K (.ref f8) = true)
    (a9 : PySem.W.nsIn K mainGlobals (Str.ofString "make_fraction") = some (some (.ref f9)))
    (l9 : K.lookup f9 = some ⟨oc9, od9, .func (PySem.W.fnOf (Str.ofString "make_fraction") (Str.ofString "make_fraction") (defArgs (topS 19)) (defBody (topS 19)) (defScope (topS 19)) .none kV9 dc9 pm9 an9 cd9 ct9), sl9⟩)
    (e9 : PySem.W.codeIn K cd9 (Str.ofString "make_fraction") = true)
    (k9 : PySem.W.keepIn K (.ref f9) = true)
    (a10 : PySem.W.nsIn K mainGlobals (Str.ofString "fraction_product") = some (some (.ref f10)))
    (l10 : K.lookup f10 = some ⟨oc10, od10, .func (PySem.W.fnOf (Str.ofString "fraction_product") (Str.ofString "fraction_product") (defArgs (topS 20)) (defBody (topS 20)) (defScope (topS 20)) .none kV10 dc10 pm10 an10 cd10 ct10), sl10⟩)
    (e10 : PySem.W.codeIn K cd10 (Str.ofString "fraction_product") = true)
    (k10 : PySem.W.keepIn K (.ref f10) = true)
    (a11 : PySem.W.nsIn K mainGlobals (Str.ofString "compared") = some (some (.ref f11)))
    (l11 : K.lookup f11 = some ⟨oc11, od11, .func (PySem.W.fnOf (Str.ofString "compared") (Str.ofString "compared") (defArgs (topS 21)) (defBody (topS 21)) (defScope (topS 21)) .none kV11 dc11 pm11 an11 cd11 ct11), sl11⟩)
    (e11 : PySem.W.codeIn K cd11 (Str.ofString "compared") = true)
    (k11 : PySem.W.keepIn K (.ref f11) = true)
    (a12 : PySem.W.nsIn K mainGlobals (Str.ofString "require_fractions") = some (some (.ref f12)))
    (l12 : K.lookup f12 = some ⟨oc12, od12, .func (PySem.W.fnOf (Str.ofString "require_fractions") (Str.ofString "require_fractions") (defArgs (topS 22)) (defBody (topS 22)) (defScope (topS 22)) .none kV12 dc12 pm12 an12 cd12 ct12), sl12⟩)
    (e12 : PySem.W.codeIn K cd12 (Str.ofString "require_fractions") = true)
    (k12 : PySem.W.keepIn K (.ref f12) = true)
    (a13 : PySem.W.nsIn K mainGlobals (Str.ofString "least_in") = some (some (.ref f13)))
    (l13 : K.lookup f13 = some ⟨oc13, od13, .func (PySem.W.fnOf (Str.ofString "least_in") (Str.ofString "least_in") (defArgs (topS 23)) (defBody (topS 23)) (defScope (topS 23)) .none kV13 dc13 pm13 an13 cd13 ct13), sl13⟩)
    (e13 : PySem.W.codeIn K cd13 (Str.ofString "least_in") = true)
    (k13 : PySem.W.keepIn K (.ref f13) = true)
    (a14 : PySem.W.nsIn K mainGlobals (Str.ofString "greatest_in") = some (some (.ref f14)))
    (l14 : K.lookup f14 = some ⟨oc14, od14, .func (PySem.W.fnOf (Str.ofString "greatest_in") (Str.ofString "greatest_in") (defArgs (topS 24)) (defBody (topS 24)) (defScope (topS 24)) .none kV14 dc14 pm14 an14 cd14 ct14), sl14⟩)
    (e14 : PySem.W.codeIn K cd14 (Str.ofString "greatest_in") = true)
    (k14 : PySem.W.keepIn K (.ref f14) = true)
    (a15 : PySem.W.nsIn K mainGlobals (Str.ofString "least_fraction") = some (some (.ref f15)))
    (l15 : K.lookup f15 = some ⟨oc15, od15, .func (PySem.W.fnOf (Str.ofString "least_fraction") (Str.ofString "least_fraction") (defArgs (topS 25)) (defBody (topS 25)) (defScope (topS 25)) .none kV15 dc15 pm15 an15 cd15 ct15), sl15⟩)
    (e15 : PySem.W.codeIn K cd15 (Str.ofString "least_fraction") = true)
    (k15 : PySem.W.keepIn K (.ref f15) = true)
    (a16 : PySem.W.nsIn K mainGlobals (Str.ofString "greatest_fraction") = some (some (.ref f16)))
    (l16 : K.lookup f16 = some ⟨oc16, od16, .func (PySem.W.fnOf (Str.ofString "greatest_fraction") (Str.ofString "greatest_fraction") (defArgs (topS 26)) (defBody (topS 26)) (defScope (topS 26)) .none kV16 dc16 pm16 an16 cd16 ct16), sl16⟩)
    (e16 : PySem.W.codeIn K cd16 (Str.ofString "greatest_fraction") = true)
    (k16 : PySem.W.keepIn K (.ref f16) = true)
    (a17 : PySem.W.nsIn K mainGlobals (Str.ofString "_law_start") = some (some (.ref f17)))
    (l17 : K.lookup f17 = some ⟨oc17, od17, .func (PySem.W.fnOf (Str.ofString "_law_start") (Str.ofString "_law_start") (defArgs (topS 28)) (defBody (topS 28)) (defScope (topS 28)) .none kV17 dc17 pm17 an17 cd17 ct17), sl17⟩)
    (e17 : PySem.W.codeIn K cd17 (Str.ofString "_law_start") = true)
    (k17 : PySem.W.keepIn K (.ref f17) = true)
    (a18 : PySem.W.nsIn K mainGlobals (Str.ofString "_law_throw") = some (some (.ref f18)))
    (l18 : K.lookup f18 = some ⟨oc18, od18, .func (PySem.W.fnOf (Str.ofString "_law_throw") (Str.ofString "_law_throw") (defArgs (topS 29)) (defBody (topS 29)) (defScope (topS 29)) .none kV18 dc18 pm18 an18 cd18 ct18), sl18⟩)
    (e18 : PySem.W.codeIn K cd18 (Str.ofString "_law_throw") = true)
    (k18 : PySem.W.keepIn K (.ref f18) = true)
    (a19 : PySem.W.nsIn K mainGlobals (Str.ofString "_law_pick") = some (some (.ref f19)))
    (l19 : K.lookup f19 = some ⟨oc19, od19, .func (PySem.W.fnOf (Str.ofString "_law_pick") (Str.ofString "_law_pick") (defArgs (topS 30)) (defBody (topS 30)) (defScope (topS 30)) .none kV19 dc19 pm19 an19 cd19 ct19), sl19⟩)
    (e19 : PySem.W.codeIn K cd19 (Str.ofString "_law_pick") = true)
    (k19 : PySem.W.keepIn K (.ref f19) = true)
    (a20 : PySem.W.nsIn K mainGlobals (Str.ofString "_law_whole") = some (some (.ref f20)))
    (l20 : K.lookup f20 = some ⟨oc20, od20, .func (PySem.W.fnOf (Str.ofString "_law_whole") (Str.ofString "_law_whole") (defArgs (topS 31)) (defBody (topS 31)) (defScope (topS 31)) .none kV20 dc20 pm20 an20 cd20 ct20), sl20⟩)
    (e20 : PySem.W.codeIn K cd20 (Str.ofString "_law_whole") = true)
    (k20 : PySem.W.keepIn K (.ref f20) = true)
    (a21 : PySem.W.nsIn K mainGlobals (Str.ofString "_law_divisor") = some (some (.ref f21)))
    (l21 : K.lookup f21 = some ⟨oc21, od21, .func (PySem.W.fnOf (Str.ofString "_law_divisor") (Str.ofString "_law_divisor") (defArgs (topS 32)) (defBody (topS 32)) (defScope (topS 32)) .none kV21 dc21 pm21 an21 cd21 ct21), sl21⟩)
    (e21 : PySem.W.codeIn K cd21 (Str.ofString "_law_divisor") = true)
    (k21 : PySem.W.keepIn K (.ref f21) = true)
    (a22 : PySem.W.nsIn K mainGlobals (Str.ofString "_law_is_fraction") = some (some (.ref f22)))
    (l22 : K.lookup f22 = some ⟨oc22, od22, .func (PySem.W.fnOf (Str.ofString "_law_is_fraction") (Str.ofString "_law_is_fraction") (defArgs (topS 33)) (defBody (topS 33)) (defScope (topS 33)) .none kV22 dc22 pm22 an22 cd22 ct22), sl22⟩)
    (e22 : PySem.W.codeIn K cd22 (Str.ofString "_law_is_fraction") = true)
    (k22 : PySem.W.keepIn K (.ref f22) = true)
    (a23 : PySem.W.nsIn K mainGlobals (Str.ofString "_law_met") = some (some (.ref f23)))
    (l23 : K.lookup f23 = some ⟨oc23, od23, .func (PySem.W.fnOf (Str.ofString "_law_met") (Str.ofString "_law_met") (defArgs (topS 34)) (defBody (topS 34)) (defScope (topS 34)) .none kV23 dc23 pm23 an23 cd23 ct23), sl23⟩)
    (e23 : PySem.W.codeIn K cd23 (Str.ofString "_law_met") = true)
    (k23 : PySem.W.keepIn K (.ref f23) = true)
    (a24 : PySem.W.nsIn K mainGlobals (Str.ofString "_law_is_name") = some (some (.ref f24)))
    (l24 : K.lookup f24 = some ⟨oc24, od24, .func (PySem.W.fnOf (Str.ofString "_law_is_name") (Str.ofString "_law_is_name") (defArgs (topS 35)) (defBody (topS 35)) (defScope (topS 35)) .none kV24 dc24 pm24 an24 cd24 ct24), sl24⟩)
    (e24 : PySem.W.codeIn K cd24 (Str.ofString "_law_is_name") = true)
    (k24 : PySem.W.keepIn K (.ref f24) = true)
    (a25 : PySem.W.nsIn K mainGlobals (Str.ofString "_law_word") = some (some (.ref f25)))
    (l25 : K.lookup f25 = some ⟨oc25, od25, .func (PySem.W.fnOf (Str.ofString "_law_word") (Str.ofString "_law_word") (defArgs (topS 36)) (defBody (topS 36)) (defScope (topS 36)) .none kV25 dc25 pm25 an25 cd25 ct25), sl25⟩)
    (e25 : PySem.W.codeIn K cd25 (Str.ofString "_law_word") = true)
    (k25 : PySem.W.keepIn K (.ref f25) = true)
    (a26 : PySem.W.nsIn K mainGlobals (Str.ofString "_law_number") = some (some (.ref f26)))
    (l26 : K.lookup f26 = some ⟨oc26, od26, .func (PySem.W.fnOf (Str.ofString "_law_number") (Str.ofString "_law_number") (defArgs (topS 37)) (defBody (topS 37)) (defScope (topS 37)) .none kV26 dc26 pm26 an26 cd26 ct26), sl26⟩)
    (e26 : PySem.W.codeIn K cd26 (Str.ofString "_law_number") = true)
    (k26 : PySem.W.keepIn K (.ref f26) = true)
    (a27 : PySem.W.nsIn K mainGlobals (Str.ofString "_law_lowest") = some (some (.ref f27)))
    (l27 : K.lookup f27 = some ⟨oc27, od27, .func (PySem.W.fnOf (Str.ofString "_law_lowest") (Str.ofString "_law_lowest") (defArgs (topS 38)) (defBody (topS 38)) (defScope (topS 38)) .none kV27 dc27 pm27 an27 cd27 ct27), sl27⟩)
    (e27 : PySem.W.codeIn K cd27 (Str.ofString "_law_lowest") = true)
    (k27 : PySem.W.keepIn K (.ref f27) = true)
    (a28 : PySem.W.nsIn K mainGlobals (Str.ofString "_law_drawn_fraction") = some (some (.ref f28)))
    (l28 : K.lookup f28 = some ⟨oc28, od28, .func (PySem.W.fnOf (Str.ofString "_law_drawn_fraction") (Str.ofString "_law_drawn_fraction") (defArgs (topS 39)) (defBody (topS 39)) (defScope (topS 39)) .none kV28 dc28 pm28 an28 cd28 ct28), sl28⟩)
    (e28 : PySem.W.codeIn K cd28 (Str.ofString "_law_drawn_fraction") = true)
    (k28 : PySem.W.keepIn K (.ref f28) = true)
    (a29 : PySem.W.nsIn K mainGlobals (Str.ofString "_law_values_right") = some (some (.ref f29)))
    (l29 : K.lookup f29 = some ⟨oc29, od29, .func (PySem.W.fnOf (Str.ofString "_law_values_right") (Str.ofString "_law_values_right") (defArgs (topS 40)) (defBody (topS 40)) (defScope (topS 40)) .none kV29 dc29 pm29 an29 (.ref c29) ct29), sl29⟩)
    (e29 : PySem.W.codeIn K (.ref c29) (Str.ofString "_law_values_right") = true)
    (k29 : PySem.W.keepIn K (.ref f29) = true)
    (xl29 : K.lookup c29 = some ⟨xoc29, xod29, .fields xvs29, xsl29⟩)
    (xv29 : xvs29[11]? = some (.ref P29))
    (xr29 : (recsOf q).any (fun e => e.name == (Str.ofString "_law_values_right")) = true)
    (a30 : PySem.W.nsIn K mainGlobals (Str.ofString "_law_sums_right") = some (some (.ref f30)))
    (l30 : K.lookup f30 = some ⟨oc30, od30, .func (PySem.W.fnOf (Str.ofString "_law_sums_right") (Str.ofString "_law_sums_right") (defArgs (topS 41)) (defBody (topS 41)) (defScope (topS 41)) .none kV30 dc30 pm30 an30 cd30 ct30), sl30⟩)
    (e30 : PySem.W.codeIn K cd30 (Str.ofString "_law_sums_right") = true)
    (k30 : PySem.W.keepIn K (.ref f30) = true)
    (a31 : PySem.W.nsIn K mainGlobals (Str.ofString "_law_refused_right") = some (some (.ref f31)))
    (l31 : K.lookup f31 = some ⟨oc31, od31, .func (PySem.W.fnOf (Str.ofString "_law_refused_right") (Str.ofString "_law_refused_right") (defArgs (topS 42)) (defBody (topS 42)) (defScope (topS 42)) .none kV31 dc31 pm31 an31 (.ref c31) ct31), sl31⟩)
    (e31 : PySem.W.codeIn K (.ref c31) (Str.ofString "_law_refused_right") = true)
    (k31 : PySem.W.keepIn K (.ref f31) = true)
    (xl31 : K.lookup c31 = some ⟨xoc31, xod31, .fields xvs31, xsl31⟩)
    (xv31 : xvs31[11]? = some (.ref P31))
    (xr31 : (recsOf q).any (fun e => e.name == (Str.ofString "_law_refused_right")) = true)
    (a32 : PySem.W.nsIn K mainGlobals (Str.ofString "law") = some (some (.ref f32)))
    (l32 : K.lookup f32 = some ⟨oc32, od32, .func (PySem.W.fnOf (Str.ofString "law") (Str.ofString "law") (defArgs (topS 43)) (defBody (topS 43)) (defScope (topS 43)) .none kV32 dc32 pm32 an32 cd32 ct32), sl32⟩)
    (e32 : PySem.W.codeIn K cd32 (Str.ofString "law") = true)
    (k32 : PySem.W.keepIn K (.ref f32) = true)
    (g_LETTERS : PySem.W.nsIn K mainGlobals (Str.ofString "LETTERS") = some (some (.str (Str.ofString "abcdefghijklmnopqrstuvwxyz") tk_LETTERS)))
    (g_MOST_LETTERS : PySem.W.nsIn K mainGlobals (Str.ofString "MOST_LETTERS") = some (some (.int 8 tk_MOST_LETTERS)))
    (g_LESS : PySem.W.nsIn K mainGlobals (Str.ofString "LESS") = some (some (.str (Str.ofString "less") tk_LESS)))
    (g_EQUAL : PySem.W.nsIn K mainGlobals (Str.ofString "EQUAL") = some (some (.str (Str.ofString "equal") tk_EQUAL)))
    (g_GREATER : PySem.W.nsIn K mainGlobals (Str.ofString "GREATER") = some (some (.str (Str.ofString "greater") tk_GREATER)))
    (z_len : PySem.W.nsIn K mainGlobals (Str.ofString "len") = some none)
    (z_abs : PySem.W.nsIn K mainGlobals (Str.ofString "abs") = some none)
    (z_max : PySem.W.nsIn K mainGlobals (Str.ofString "max") = some none)
    (z_min : PySem.W.nsIn K mainGlobals (Str.ofString "min") = some none)
    (z_int : PySem.W.nsIn K mainGlobals (Str.ofString "int") = some none)
    (z_list : PySem.W.nsIn K mainGlobals (Str.ofString "list") = some none)
    (z_tuple : PySem.W.nsIn K mainGlobals (Str.ofString "tuple") = some none)
    (z_repr : PySem.W.nsIn K mainGlobals (Str.ofString "repr") = some none)
    (z_all : PySem.W.nsIn K mainGlobals (Str.ofString "all") = some none)
    (z_isinstance : PySem.W.nsIn K mainGlobals (Str.ofString "isinstance") = some none)
    (z_bool : PySem.W.nsIn K mainGlobals (Str.ofString "bool") = some none)
    (z_str : PySem.W.nsIn K mainGlobals (Str.ofString "str") = some none)
    (z_range : PySem.W.nsIn K mainGlobals (Str.ofString "range") = some none)
    (ca0 : PySem.W.nsIn K mainGlobals (Str.ofString "InvalidOperation") = some (some (.ref C0)))
    (ck0 : PySem.W.keepIn K (.ref C0) = true)
    (cb0 : PySem.W.subIn K (.ref C0) (.type "BaseException") = some true)
    (cy0 : PySem.W.typeIn K (.ref C0) = some (.type "type"))
    (ci0 : PySem.W.isClsIn K C0 = true)
    (cx0 : PySem.W.excIn K C0 [.type "ValueError", .type "Exception", .type "BaseException", .type "object"] "ValueError.__new__" = true)
    (ca1 : PySem.W.nsIn K mainGlobals (Str.ofString "InvalidNumber") = some (some (.ref C1)))
    (ck1 : PySem.W.keepIn K (.ref C1) = true)
    (cb1 : PySem.W.subIn K (.ref C1) (.type "BaseException") = some true)
    (cy1 : PySem.W.typeIn K (.ref C1) = some (.type "type"))
    (ci1 : PySem.W.isClsIn K C1 = true)
    (cl1 : K.lookup C1 = some ⟨.type "type", idd1, cdt1, csl1⟩)
    (ch1 : iniB C1 [.type "IndexError", .type "LookupError", .type "Exception", .type "BaseException", .type "object"] "IndexError.__new__" cdt1 csl1 = true)
    (ct_1 : PySem.W.takerIn K C1 (Str.ofString "value") = some none)
    (cs1 : PySem.W.findIn K (.ref C1) "__setattr__" = some (some (.builtin "object.__setattr__")))
    (cn1 : PySem.W.findIn K (.ref C1) "__init__" = some (some (.ref I1)))
    (cf1 : PySem.W.typeIn K (.ref I1) = some (.type "function"))
    (cli1 : K.lookup I1 = some ⟨ioc1, iod1, .func (PySem.W.fnOf "__init__" (Str.ofString "InvalidNumber.__init__") (defArgs ((C8.clsBody (topS 3)).getD 0 (.Pass ⟨0, 0, 0, 0⟩))) (defBody ((C8.clsBody (topS 3)).getD 0 (.Pass ⟨0, 0, 0, 0⟩))) (defScope ((C8.clsBody (topS 3)).getD 0 (.Pass ⟨0, 0, 0, 0⟩))) .none ikV1 idc1 ipm1 ian1 icd1 ict1), isl1⟩)
    (cci1 : PySem.W.codeIn K icd1 (Str.ofString "InvalidNumber.__init__") = true)
    (cg1 : PySem.W.findIn K (.ref C1) "__getattribute__" = some (some (.builtin "BaseException.__getattribute__")))
    (cgg1 : PySem.W.findIn K (.ref C1) "__getattr__" = some none)
    (chd1 : PySem.W.hasDictIn K C1 = true)
    (cno1 : PySem.W.findIn K (.ref C1) (Str.ofString "value") = some none)
    (s0_0 : PySem.W.subIn K (.ref C0) (.ref C0) = some true)
    (s0_1 : PySem.W.subIn K (.ref C0) (.ref C1) = some false)
    (s1_0 : PySem.W.subIn K (.ref C1) (.ref C0) = some false)
    (s1_1 : PySem.W.subIn K (.ref C1) (.ref C1) = some true)
    (tk29 : K.lookup P29 = none)
    (tk31 : K.lookup P31 = none)
    (tn29_31 : P29 ≠ P31)
    : ∃ (L : Lk) (cs : List (Addr × Addr)), Link P w K mg h L gb cs "law" ∧ L.pg = pg := by
  have D0 := defK_mk a0 l0 e0 k0
  have D1 := defK_mk a1 l1 e1 k1
  have D2 := defK_mk a2 l2 e2 k2
  have D3 := defK_mk a3 l3 e3 k3
  have D4 := defK_mk a4 l4 e4 k4
  have D5 := defK_mk a5 l5 e5 k5
  have D6 := defK_mk a6 l6 e6 k6
  have D7 := defK_mk a7 l7 e7 k7
  have D8 := defK_mk a8 l8 e8 k8
  have D9 := defK_mk a9 l9 e9 k9
  have D10 := defK_mk a10 l10 e10 k10
  have D11 := defK_mk a11 l11 e11 k11
  have D12 := defK_mk a12 l12 e12 k12
  have D13 := defK_mk a13 l13 e13 k13
  have D14 := defK_mk a14 l14 e14 k14
  have D15 := defK_mk a15 l15 e15 k15
  have D16 := defK_mk a16 l16 e16 k16
  have D17 := defK_mk a17 l17 e17 k17
  have D18 := defK_mk a18 l18 e18 k18
  have D19 := defK_mk a19 l19 e19 k19
  have D20 := defK_mk a20 l20 e20 k20
  have D21 := defK_mk a21 l21 e21 k21
  have D22 := defK_mk a22 l22 e22 k22
  have D23 := defK_mk a23 l23 e23 k23
  have D24 := defK_mk a24 l24 e24 k24
  have D25 := defK_mk a25 l25 e25 k25
  have D26 := defK_mk a26 l26 e26 k26
  have D27 := defK_mk a27 l27 e27 k27
  have D28 := defK_mk a28 l28 e28 k28
  have D29 := defK_mk a29 l29 e29 k29
  have D30 := defK_mk a30 l30 e30 k30
  have D31 := defK_mk a31 l31 e31 k31
  have D32 := defK_mk a32 l32 e32 k32
  have Y29 := code_of T X xr29 D29 xl29 xv29
  have Y31 := code_of T X xr31 D31 xl31 xv31
  have gf : ∀ (L : Lk), L.mg = mg → L.K = K → ∀ x i, posOf gb.fns x = some i → ∃ a, L.mg x = some (.ref a) ∧ PySem.W.keepIn L.K (.ref a) = true := fun L eM eK x i e => AllF.get X T.g eM eK (.cons D0 (.cons D1 (.cons D2 (.cons D3 (.cons D4 (.cons D5 (.cons D6 (.cons D7 (.cons D8 (.cons D9 (.cons D10 (.cons D11 (.cons D12 (.cons D13 (.cons D14 (.cons D15 (.cons D16 (.cons D17 (.cons D18 (.cons D19 (.cons D20 (.cons D21 (.cons D22 (.cons D23 (.cons D24 (.cons D25 (.cons D26 (.cons D27 (.cons D28 (.cons D29 (.cons D30 (.cons D31 (.cons D32 (.nil)))))))))))))))))))))))))))))))))) x (List.mem_of_getElem? (posOf_get e))
  refine ⟨{ K := K, mg := mg, pg := pg, fld := fun i => ([(Str.ofString "value")] : List Str).getD i (Str.ofString ""), clA := fun i => ([C0, C1] : List Addr).getD i 0, T := [(P29, ((Str.ofString "_law_values_right") ++ ".<locals>.") ++ "<lambda>"), (P31, ((Str.ofString "_law_refused_right") ++ ".<locals>.") ++ "<lambda>")], nc := 2 }, [(c29, P29), (c31, P31)], ⟨rfl, rfl, ?_, ?_, ?_, ?_, ?_, ?_⟩, rfl⟩
  · intro p hp
    simp only [List.mem_cons, List.not_mem_nil, or_false] at hp
    rcases hp with rfl | rfl
    · exact Y29.2
    · exact Y31.2
  · intro p hp
    simp only [List.mem_cons, List.not_mem_nil, or_false] at hp
    rcases hp with rfl | rfl
    · exact tk29
    · exact tk31
  · intro p hp
    simp only [List.mem_cons, List.not_mem_nil, or_false] at hp
    rcases hp with rfl | rfl
    · exact Y29.1
    · exact Y31.1
  · intro p hp
    simp only [List.mem_cons, List.not_mem_nil, or_false] at hp ⊢
    rcases hp with rfl | rfl <;> simp
  · refine ⟨?_, ?_, ?_, ?_, ?_, ?_, ?_, ?_⟩
    · exact AllC.get (.cons (c_str X T.g rfl g_LETTERS) (.cons (c_int X T.g rfl g_MOST_LETTERS) (.cons (c_str X T.g rfl g_LESS) (.cons (c_str X T.g rfl g_EQUAL) (.cons (c_str X T.g rfl g_GREATER) (.nil))))))
    · exact AllB.get X T.g rfl (.cons z_len (.cons z_abs (.cons z_max (.cons z_min (.cons z_int (.cons z_list (.cons z_tuple (.cons z_repr (.cons z_all (.cons z_isinstance (.cons z_bool (.cons z_str (.cons z_range (.nil))))))))))))))
    · intro i x e
      exact getD_of e
    · intro x c e
      have e := posOf_get e
      match c, e with
      | 0, e => cases e; exact ⟨by show 0 < 2; decide, PySem.W.mg_of X T.g ca0⟩
      | 1, e => cases e; exact ⟨by show 1 < 2; decide, PySem.W.mg_of X T.g ca1⟩
      | n + 2, e => cases e
    · intro i c h1 h2
      match i, c, h1, h2 with
      | 0, 0, _, _ => exact exm_of cb0 ci0 cy0 s0_0
      | 0, 1, _, _ => exact exm_of cb1 ci1 cy1 s0_1
      | 1, 0, _, _ => exact exm_of cb0 ci0 cy0 s1_0
      | 1, 1, _, _ => exact exm_of cb1 ci1 cy1 s1_1
      | 0, n + 2, _, h => exact absurd h (by show ¬ (n + 2 < 2); omega)
      | 1, n + 2, _, h => exact absurd h (by show ¬ (n + 2 < 2); omega)
      | n + 2, _, h, _ => exact absurd h (by show ¬ (n + 2 < 2); omega)
    · intro c h1 e
      match c, h1, e with
      | 0, _, _ => exact ⟨_, _, _, _, PySem.F.excBase_ValueError, cx0, ck0, cb0, cy0⟩
      | 1, _, e => cases e
      | n + 2, h, _ => exact absurd h (by show ¬ (n + 2 < 2); omega)
    · intro c f h1 e
      match c, h1, e with
      | 0, _, e => cases e
      | 1, _, e =>
        cases e
        exact ⟨iniD_mk (iniC_mk PySem.F.excBase_IndexError PySem.F.store_IndexError cl1 ch1 ct_1 cs1 cb1 cy1 ck1 cn1 cf1) cli1 cci1 rfl (fun _ _ _ _ _ _ us hl => match us, hl with | [_, _], _ => rfl) (by decide +kernel) (by decide +kernel) (by decide +kernel) (by decide +kernel) (by decide +kernel), ⟨cg1, cgg1, cb1, chd1⟩, cno1⟩
      | n + 2, h, _ => exact absurd h (by show ¬ (n + 2 < 2); omega)
    · exact gf _ rfl rfl
  · intro base hb
    refine AllD.defs ?_
    refine .cons (defOk_mk rfl rfl X T.g D0 t0 rfl (fun h => by cases h)) ?_
    refine .cons (defOk_mk rfl rfl X T.g D1 t1 rfl (fun h => by cases h)) ?_
    refine .cons (defOk_mk rfl rfl X T.g D2 t2 rfl (fun h => by cases h)) ?_
    refine .cons (defOk_mk rfl rfl X T.g D3 t3 rfl (fun h => by cases h)) ?_
    refine .cons (defOk_mk rfl rfl X T.g D4 t4 rfl (fun h => by cases h)) ?_
    refine .cons (defOk_mk rfl rfl X T.g D5 t5 rfl (fun h => by cases h)) ?_
    refine .cons (defOk_mk rfl rfl X T.g D6 t6 rfl (fun h => by cases h)) ?_
    refine .cons (defOk_mk rfl rfl X T.g D7 t7 rfl (fun h => by cases h)) ?_
    refine .cons (defOk_mk rfl rfl X T.g D8 t8 rfl (fun h => by cases h)) ?_
    refine .cons (defOk_mk rfl rfl X T.g D9 t9 rfl (fun h => by cases h)) ?_
    refine .cons (defOk_mk rfl rfl X T.g D10 t10 rfl (fun h => by cases h)) ?_
    refine .cons (defOk_mk rfl rfl X T.g D11 t11 rfl (fun h => by cases h)) ?_
    refine .cons (defOk_mk rfl rfl X T.g D12 t12 rfl (fun h => by cases h)) ?_
    refine .cons (defOk_mk rfl rfl X T.g D13 t13 rfl (fun h => by cases h)) ?_
    refine .cons (defOk_mk rfl rfl X T.g D14 t14 rfl (fun h => by cases h)) ?_
    refine .cons (defOk_mk rfl rfl X T.g D15 t15 rfl (fun h => by cases h)) ?_
    refine .cons (defOk_mk rfl rfl X T.g D16 t16 rfl (fun h => by cases h)) ?_
    refine .cons (defOk_mk rfl rfl X T.g D17 t17 rfl (fun h => by cases h)) ?_
    refine .cons (defOk_mk rfl rfl X T.g D18 t18 rfl (fun h => by cases h)) ?_
    refine .cons (defOk_mk rfl rfl X T.g D19 t19 rfl (fun h => by cases h)) ?_
    refine .cons (defOk_mk rfl rfl X T.g D20 t20 rfl (fun h => by cases h)) ?_
    refine .cons (defOk_mk rfl rfl X T.g D21 t21 rfl (fun h => by cases h)) ?_
    refine .cons (defOk_mk rfl rfl X T.g D22 t22 rfl (fun h => by cases h)) ?_
    refine .cons (defOk_mk rfl rfl X T.g D23 t23 rfl (fun h => by cases h)) ?_
    refine .cons (defOk_mk rfl rfl X T.g D24 t24 rfl (fun h => by cases h)) ?_
    refine .cons (defOk_mk rfl rfl X T.g D25 t25 rfl (fun h => by cases h)) ?_
    refine .cons (defOk_mk rfl rfl X T.g D26 t26 rfl (fun h => by cases h)) ?_
    refine .cons (defOk_mk rfl rfl X T.g D27 t27 rfl (fun h => by cases h)) ?_
    refine .cons (defOk_mk rfl rfl X T.g D28 t28 rfl (fun h => by cases h)) ?_
    refine .cons (defOk_mk rfl rfl X T.g D29 t29 rfl (fun _ => ⟨c29, P29, hb (c29, P29) (by simp), rfl, by simp, ?_⟩)) ?_
    · intro q hq hP
      simp only [List.mem_cons, List.not_mem_nil, or_false] at hq
      rcases hq with rfl | rfl
      · rfl
      · exact absurd hP.symm tn29_31
    refine .cons (defOk_mk rfl rfl X T.g D30 t30 rfl (fun h => by cases h)) ?_
    refine .cons (defOk_mk rfl rfl X T.g D31 t31 rfl (fun _ => ⟨c31, P31, hb (c31, P31) (by simp), rfl, by simp, ?_⟩)) ?_
    · intro q hq hP
      simp only [List.mem_cons, List.not_mem_nil, or_false] at hq
      rcases hq with rfl | rfl
      · exact absurd hP tn29_31
      · rfl
    refine .cons (defOk_mk rfl rfl X T.g D32 t32 rfl (fun h => by cases h)) ?_
    exact .nil
end K01
namespace MX
open PySem L2
/-! ### reasoning about the mirror -/
/-- the f-th function called, over n further levels -/
def cf (pg : Pg) (n f : Nat) (ds : List D) (h : Hh) : R D := (mkCl pg (tabs pg n)).call f ds h
abbrev E0 (pg : Pg) (n : Nat) : Ev := ⟨pg, tabs pg n, none, none⟩
theorem cf_eq {pg : Pg} {n f : Nat} {ds : List D} {h : Hh} {fd : FD} (e : pg.fns[f]? = some fd) (ht : fd.thk = false) (hl : ds.length = fd.np) :
    cf pg n f ds h = retR (exSs (E0 pg n) fd.body (ds.map some ++ List.replicate (fd.ns - ds.length) none) h) := by
  unfold cf mkCl
  simp only [e, ht, hl, true_and, if_true]
theorem ev_call {pg : Pg} {n f : Nat} {es : CEs} {env : Env} {t : Option (M D)} {x : Option XV} : evE ⟨pg, tabs pg (n + 1), t, x⟩ (.call f es) env = M.bind (evEs ⟨pg, tabs pg (n + 1), t, x⟩ es env) (fun xs => cf pg n f xs) := by
  simp only [evE]
  rfl
/-- what holds behind -/
def wp {α : Type} (r : R α) (Q : α → Hh → Prop) (E : XV → Hh → Prop) : Prop := match r with
  | .ok a h => Q a h
  | .exc x h => E x h
  | .bad => False
theorem wp_bind {α β : Type} (m : M α) (f : α → M β) (h : Hh) (Q : β → Hh → Prop) (E : XV → Hh → Prop) : wp (M.bind m f h) Q E = wp (m h) (fun a h' => wp (f a h') Q E) E := by
  unfold M.bind
  cases m h <;> rfl
theorem wp_mono {α : Type} {r : R α} {Q Q' : α → Hh → Prop} {E E' : XV → Hh → Prop} (w : wp r Q E) (k : ∀ a h, Q a h → Q' a h) (j : ∀ x h, E x h → E' x h) : wp r Q' E' := by
  cases r with
  | ok a h => exact k a h w
  | exc x h => exact j x h w
  | bad => exact w
theorem bind_ok {α β : Type} {m : M α} {f : α → M β} {h h' : Hh} {a : α} (e : m h = .ok a h') : M.bind m f h = f a h' := by
  unfold M.bind
  rw [e]
/-- the ends of statements -/
structure Po where
  nx : Env → Hh → Prop
  rt : D → Hh → Prop
  bk : Env → Hh → Prop := fun _ _ => False
  ct : Env → Hh → Prop := fun _ _ => False
  ex : XV → Env → Hh → Prop := fun _ _ _ => False
def wps (r : SR) (P : Po) : Prop := match r with
  | .nxt env h => P.nx env h
  | .brk env h => P.bk env h
  | .cnt env h => P.ct env h
  | .ret d h => P.rt d h
  | .exc x env h => P.ex x env h
  | .bad => False
theorem wps_nil {ev : Ev} {env : Env} {h : Hh} {P : Po} : wps (exSs ev .nil env h) P = P.nx env h := rfl
theorem wps_cons {ev : Ev} {s : CS} {ss : CSs} {env : Env} {h : Hh} {P : Po} : wps (exSs ev (.cons s ss) env h) P = wps (exS ev s env h) { P with nx := fun env' h' => wps (exSs ev ss env' h') P } := by
  simp only [exSs]
  cases exS ev s env h <;> rfl
theorem wps_lift {α : Type} {m : M α} {env : Env} {k : α → Hh → SR} {h : Hh} {P : Po} : wps (liftE m env k h) P = wp (m h) (fun a h' => wps (k a h') P) (fun x h' => P.ex x env h') := by
  unfold liftE
  cases m h <;> rfl
theorem wp_ret {r : SR} {Q : D → Hh → Prop} {E : XV → Hh → Prop} : wp (retR r) Q E = wps r { nx := fun _ h => Q .non h, rt := Q, ex := fun x _ h => E x h } := by
  cases r <;> rfl
theorem wps_mono {r : SR} {P P' : Po} (w : wps r P) (h1 : ∀ e h, P.nx e h → P'.nx e h) (h2 : ∀ d h, P.rt d h → P'.rt d h) (h3 : ∀ e h, P.bk e h → P'.bk e h) (h4 : ∀ e h, P.ct e h → P'.ct e h) (h5 : ∀ x e h, P.ex x e h → P'.ex x e h) : wps r P' := by
  cases r with
  | nxt e h => exact h1 e h w
  | brk e h => exact h3 e h w
  | cnt e h => exact h4 e h w
  | ret d h => exact h2 d h w
  | exc x e h => exact h5 x e h w
  | bad => exact w
/-! ### loops -/
/-- a loop over what is walked: I tells what holds, by the turns that remain and what is still to come -/
theorem for_wk {turn : D → Env → Hh → SR} {P : Po} (I : Nat → Wk → Env → Hh → Prop)
    (step : ∀ n wk env h, I n wk env h → match wk.next h with
      | none => False
      | some none => P.nx env h
      | some (some (d, wk')) => ∃ m, n = m + 1 ∧ wps (turn d env h) { P with nx := I m wk', ct := I m wk', bk := P.nx }) :
    ∀ (n : Nat) (wk : Wk) (env : Env) (h : Hh), I n wk env h → wps (loopF turn n wk env h) P := by
  intro n
  induction n with
  | zero =>
    intro wk env h hI
    have s := step 0 wk env h hI
    cases e : wk.next h with
    | none =>
      rw [e] at s
      exact s.elim
    | some o =>
      cases o with
      | none =>
        rw [e] at s
        rw [loopF_stop e]
        exact s
      | some y =>
        obtain ⟨d, wk'⟩ := y
        rw [e] at s
        obtain ⟨m, hm, _⟩ := s
        cases hm
  | succ n ih =>
    intro wk env h hI
    have s := step (n + 1) wk env h hI
    cases e : wk.next h with
    | none =>
      rw [e] at s
      exact s.elim
    | some o =>
      cases o with
      | none =>
        rw [e] at s
        rw [loopF_stop e]
        exact s
      | some y =>
        obtain ⟨d, wk'⟩ := y
        rw [e] at s
        obtain ⟨m, hm, w⟩ := s
        cases hm
        rw [loopF_go e]
        cases ht : turn d env h with
        | nxt e' h' =>
          rw [ht] at w
          exact ih wk' e' h' w
        | cnt e' h' =>
          rw [ht] at w
          exact ih wk' e' h' w
        | brk e' h' =>
          rw [ht] at w
          exact w
        | ret d' h' =>
          rw [ht] at w
          exact w
        | exc x e' h' =>
          rw [ht] at w
          exact w
        | bad =>
          rw [ht] at w
          exact w
/-- over a tuple -/
theorem for_tup {turn : D → Env → Hh → SR} {P : Po} (I : List D → Env → Hh → Prop) (step : ∀ d r env h, I (d :: r) env h → wps (turn d env h) { P with nx := I r, ct := I r, bk := P.nx }) (fin : ∀ env h, I [] env h → P.nx env h)
    {xs : List D} {env : Env} {h : Hh} (h0 : I xs env h) : wps (loopF turn xs.length (.tup xs) env h) P := by
  refine for_wk (fun n wk env h => ∃ ys, wk = .tup ys ∧ n = ys.length ∧ I ys env h) ?_ _ _ _ _ ⟨xs, rfl, rfl, h0⟩
  rintro n wk env h ⟨ys, rfl, rfl, hI⟩
  cases ys with
  | nil => exact fin env h hI
  | cons d r =>
    refine ⟨r.length, rfl, wps_mono (step d r env h hI) (fun e h z => ⟨r, rfl, rfl, z⟩) (fun _ _ z => z) (fun _ _ z => z) (fun e h z => ⟨r, rfl, rfl, z⟩) fun _ _ _ z => z⟩
/-- over a range -/
theorem for_rng {turn : D → Env → Hh → SR} {P : Po} (I : Int → Nat → Env → Hh → Prop) (step : ∀ lo n env h, I lo (n + 1) env h → wps (turn (.int lo) env h) { P with nx := I (lo + 1) n, ct := I (lo + 1) n, bk := P.nx }) (fin : ∀ lo env h, I lo 0 env h → P.nx env h)
    {lo : Int} {n : Nat} {env : Env} {h : Hh} (h0 : I lo n env h) : wps (loopF turn n (.rng lo n) env h) P := by
  refine for_wk (fun n wk env h => ∃ lo, wk = .rng lo n ∧ I lo n env h) ?_ _ _ _ _ ⟨lo, rfl, h0⟩
  rintro n wk env h ⟨lo, rfl, hI⟩
  cases n with
  | zero => exact fin lo env h hI
  | succ m => exact ⟨m, rfl, wps_mono (step lo m env h hI) (fun e h z => ⟨lo + 1, rfl, z⟩) (fun _ _ z => z) (fun _ _ z => z) (fun e h z => ⟨lo + 1, rfl, z⟩) fun _ _ _ z => z⟩
/-- over a list that stays as it is: xs, i of it done -/
theorem for_lst {turn : D → Env → Hh → SR} {P : Po} {r : Nat} (xs : List D) (I : List D → Env → Hh → Prop) (at_ : ∀ ys env h, I ys env h → h[r]? = some (.lst xs)) (step : ∀ d ys env h, (d ∈ xs) → I (d :: ys) env h → wps (turn d env h) { P with nx := I ys, ct := I ys, bk := P.nx }) (fin : ∀ env h, I [] env h → P.nx env h)
    {env : Env} {h : Hh} (h0 : I xs env h) : wps (loopF turn xs.length (.lst r 0 xs.length) env h) P := by
  refine for_wk (fun n wk env h => ∃ i, wk = .lst r i n ∧ i + n = xs.length ∧ I (xs.drop i) env h) ?_ _ _ _ _ ⟨0, rfl, by simp, h0⟩
  rintro n wk env h ⟨i, rfl, hn, hI⟩
  have ha := at_ _ _ _ hI
  cases n with
  | zero =>
    have e : Wk.next h (.lst r i 0) = some none := by
      simp only [Wk.next, seqOf, ha]
      rw [if_pos (by omega)]
    rw [e]
    have z : xs.drop i = [] := List.drop_eq_nil_of_le (by omega)
    rw [z] at hI
    exact fin env h hI
  | succ m =>
    have hi : i < xs.length := by omega
    have e : Wk.next h (.lst r i (m + 1)) = some (some (xs[i], .lst r (i + 1) m)) := by
      simp only [Wk.next, seqOf, ha]
      rw [if_pos (by omega)]
      simp [hi]
    rw [e]
    rw [List.drop_eq_getElem_cons hi] at hI
    exact ⟨m, rfl, wps_mono (step _ _ env h (List.getElem_mem hi) hI) (fun e h z => ⟨i + 1, rfl, by omega, z⟩) (fun _ _ z => z) (fun _ _ z => z) (fun e h z => ⟨i + 1, rfl, by omega, z⟩) fun _ _ _ z => z⟩
theorem while_wp {c : Env → M Bool} {turn : Env → Hh → SR} {P : Po} (I : Nat → Env → Hh → Prop)
    (step : ∀ n env h, I n env h → wp (c env h) (fun k h1 => match k with
      | false => P.nx env h1
      | true => ∃ m, m < n ∧ wps (turn env h1) { P with nx := I m, ct := I m, bk := P.nx }) (fun x h1 => P.ex x env h1)) :
    ∀ (w n : Nat) (env : Env) (h : Hh), n < w → I n env h → wps (loopW c turn w env h) P := by
  intro w
  induction w with
  | zero =>
    intro n env h hw
    omega
  | succ w ih =>
    intro n env h hw hI
    rw [loopW, wps_lift]
    refine wp_mono (step n env h hI) (fun k h1 z => ?_) fun _ _ z => z
    cases k with
    | false => exact z
    | true =>
      obtain ⟨m, hm, z⟩ := z
      cases ht : turn env h1 with
      | nxt e' h' =>
        rw [ht] at z
        exact ih m e' h' (by omega) z
      | cnt e' h' =>
        rw [ht] at z
        exact ih m e' h' (by omega) z
      | brk e' h' =>
        rw [ht] at z
        exact z
      | ret d' h' =>
        rw [ht] at z
        exact z
      | exc x e' h' =>
        rw [ht] at z
        exact z
      | bad =>
        rw [ht] at z
        exact z
/-! ### equations that simp runs -/
def rb {α β : Type} (r : R α) (f : α → Hh → R β) : R β := match r with
  | .ok a h => f a h
  | .exc x h => .exc x h
  | .bad => .bad
def rs {α : Type} (r : R α) (env : Env) (f : α → Hh → SR) : SR := match r with
  | .ok a h => f a h
  | .exc x h => .exc x env h
  | .bad => .bad
def sb (r : SR) (f : Env → Hh → SR) : SR := match r with
  | .nxt env h => f env h
  | r => r
def slotR (o : Option (Option D)) (h : Hh) : R D := match o with
  | some (some d) => .ok d h
  | _ => .bad
section
variable {α β γ : Type} {a : α} {h : Hh} {x : XV} {f : α → Hh → R β} {k : α → Hh → SR} {env : Env} {g : Env → Hh → SR} {d : D} {c : Prop} [Decidable c] {r r' : R α} {q q' : SR} {Q : α → Hh → Prop} {E : XV → Hh → Prop} {P : Po}
@[simp] theorem rb_ok : rb (.ok a h) f = f a h := rfl
@[simp] theorem rb_exc : rb (.exc x h) f = .exc x h := rfl
@[simp] theorem rb_bad : rb .bad f = .bad := rfl
@[simp] theorem rb_ite : rb (if c then r else r') f = if c then rb r f else rb r' f := by split <;> rfl
@[simp] theorem rs_ok : rs (.ok a h) env k = k a h := rfl
@[simp] theorem rs_exc : rs (.exc x h) env k = .exc x env h := rfl
@[simp] theorem rs_bad : rs .bad env k = .bad := rfl
@[simp] theorem rs_ite : rs (if c then r else r') env k = if c then rs r env k else rs r' env k := by split <;> rfl
@[simp] theorem sb_nxt : sb (.nxt env h) g = g env h := rfl
@[simp] theorem sb_ret : sb (.ret d h) g = .ret d h := rfl
@[simp] theorem sb_exc : sb (.exc x env h) g = .exc x env h := rfl
@[simp] theorem sb_brk : sb (.brk env h) g = .brk env h := rfl
@[simp] theorem sb_cnt : sb (.cnt env h) g = .cnt env h := rfl
@[simp] theorem sb_bad : sb .bad g = .bad := rfl
@[simp] theorem sb_ite : sb (if c then q else q') g = if c then sb q g else sb q' g := by split <;> rfl
@[simp] theorem slotR_some : slotR (some (some d)) h = .ok d h := rfl
@[simp] theorem ret_nxt : retR (.nxt env h) = .ok .non h := rfl
@[simp] theorem ret_ret : retR (.ret d h) = .ok d h := rfl
@[simp] theorem ret_exc : retR (.exc x env h) = .exc x h := rfl
@[simp] theorem ret_bad : retR .bad = .bad := rfl
@[simp] theorem ret_ite : retR (if c then q else q') = if c then retR q else retR q' := by split <;> rfl
@[simp] theorem wp_ok : wp (.ok a h) Q E = Q a h := rfl
@[simp] theorem wp_exc : wp (.exc x h) Q E = E x h := rfl
@[simp] theorem wp_bad : wp (.bad : R α) Q E = False := rfl
theorem wp_rb {Q : β → Hh → Prop} : wp (rb r f) Q E = wp r (fun a h => wp (f a h) Q E) E := by cases r <;> rfl
theorem wps_rs : wps (rs r env k) P = wp r (fun a h => wps (k a h) P) (fun x h => P.ex x env h) := by cases r <;> rfl
theorem wps_sb : wps (sb q g) P = wps q { P with nx := fun e h => wps (g e h) P } := by cases q <;> rfl
@[simp] theorem wps_nxt : wps (.nxt env h) P = P.nx env h := rfl
@[simp] theorem wps_ret : wps (.ret d h) P = P.rt d h := rfl
@[simp] theorem wps_brk : wps (.brk env h) P = P.bk env h := rfl
@[simp] theorem wps_cnt : wps (.cnt env h) P = P.ct env h := rfl
@[simp] theorem wps_exc : wps (.exc x env h) P = P.ex x env h := rfl
@[simp] theorem wps_bad : wps .bad P = False := rfl
theorem bind_rb {m : M α} {f : α → M β} : M.bind m f h = rb (m h) (fun a h => f a h) := by
  unfold M.bind
  cases m h <;> rfl
end
section
variable {ev : Ev} {env : Env} {h : Hh} {a b c : CE} {es : CEs}
@[simp] theorem e_slot {i : Nat} : evE ev (.slot i) env h = slotR env[i]? h := by
  simp only [evE, M.opt]
  cases env[i]? with
  | none => rfl
  | some o => cases o <;> rfl
@[simp] theorem e_con {d : D} : evE ev (.con d) env h = .ok d h := rfl
@[simp] theorem e_bin {o : BOp} : evE ev (.bin o a b) env h = rb (evE ev a env h) fun x h => rb (evE ev b env h) fun y h => binD o x y h := by simp only [evE, bind_rb]
@[simp] theorem e_neg : evE ev (.neg a) env h = rb (evE ev a env h) fun x h => match x with | .int i => .ok (.int (-i)) h | _ => .bad := by
  simp only [evE, bind_rb]
  congr 1
  funext x h
  cases x <;> rfl
@[simp] theorem e_not : evE ev (.notE a) env h = rb (evE ev a env h) fun x h => rb (tru x h) fun k h => .ok (.bl (!k)) h := by simp only [evE, bind_rb, M.pure]
@[simp] theorem e_and : evE ev (.andE a b) env h = rb (evE ev a env h) fun x h => rb (tru x h) fun k h => if k = true then evE ev b env h else .ok x h := by
  simp only [evE, bind_rb]
  congr 1
  funext x h
  congr 1
  funext k h
  cases k <;> rfl
@[simp] theorem e_or : evE ev (.orE a b) env h = rb (evE ev a env h) fun x h => rb (tru x h) fun k h => if k = true then .ok x h else evE ev b env h := by
  simp only [evE, bind_rb]
  congr 1
  funext x h
  congr 1
  funext k h
  cases k <;> rfl
@[simp] theorem e_cmp {o : COp} : evE ev (.cmp o a b) env h = rb (evE ev a env h) fun x h => rb (evE ev b env h) fun y h => cmpD o x y h := by simp only [evE, bind_rb]
@[simp] theorem e_isN : evE ev (.isN a) env h = rb (evE ev a env h) fun x h => .ok (.bl (match x with | .non => true | _ => false)) h := by
  simp only [evE, bind_rb, M.pure] <;> rfl
@[simp] theorem e_notN : evE ev (.notN a) env h = rb (evE ev a env h) fun x h => .ok (.bl (match x with | .non => false | _ => true)) h := by
  simp only [evE, bind_rb, M.pure] <;> rfl
@[simp] theorem e_chain {o p : COp} : evE ev (.chain o p a b c) env h = rb (evE ev a env h) fun x h => rb (evE ev b env h) fun y h => rb (cmpD o x y h) fun r h => match r with
    | .bl true => rb (evE ev c env h) fun z h => cmpD p y z h
    | .bl false => .ok (.bl false) h
    | _ => .bad := by
  simp only [evE, bind_rb]
  congr 1
  funext x h
  congr 1
  funext y h
  congr 1
  funext r h
  cases r with
  | bl k => cases k <;> simp only [bind_rb] <;> rfl
  | _ => rfl
@[simp] theorem e_ife : evE ev (.ife c a b) env h = rb (evE ev c env h) fun x h => rb (tru x h) fun k h => if k = true then evE ev a env h else evE ev b env h := by
  simp only [evE, bind_rb]
  congr 1
  funext x h
  congr 1
  funext k h
  cases k <;> rfl
@[simp] theorem e_tup : evE ev (.tup es) env h = rb (evEs ev es env h) fun xs h => if xs.length ≤ sizeLine then .ok (.tup xs) h else .bad := by
  simp only [evE, bind_rb]
  congr 1
  funext x h
  split <;> rfl
@[simp] theorem e_lst : evE ev (.lst es) env h = rb (evEs ev es env h) fun xs h => if xs.length ≤ sizeLine then .ok (.ref h.length) (h ++ [.lst xs]) else .bad := by
  simp only [evE, bind_rb]
  congr 1
  funext x h
  split <;> rfl
@[simp] theorem e_edct : evE ev .edct env h = .ok (.ref h.length) (h ++ [.dct []]) := rfl
@[simp] theorem e_idx : evE ev (.idx a b) env h = rb (evE ev a env h) fun x h => rb (evE ev b env h) fun y h => idxD x y h := by simp only [evE, bind_rb]
@[simp] theorem e_rev : evE ev (.rev a) env h = rb (evE ev a env h) fun x h => match x with | .tup xs => .ok (.tup xs.reverse) h | _ => .bad := by
  simp only [evE, bind_rb]
  congr 1
  funext x h
  cases x <;> rfl
@[simp] theorem e_call {pg : Pg} {n f : Nat} {t : Option (M D)} {x : Option XV} : evE ⟨pg, tabs pg (n + 1), t, x⟩ (.call f es) env h = rb (evEs ⟨pg, tabs pg (n + 1), t, x⟩ es env h) fun xs h => cf pg n f xs h := by
  rw [ev_call, bind_rb]
@[simp] theorem e_bt {o : Bt} : evE ev (.bt o es) env h = rb (evEs ev es env h) fun xs h => btD o xs h := by simp only [evE, bind_rb]
@[simp] theorem e_bm {o : Bm} : evE ev (.bm o a es) env h = rb (evE ev a env h) fun x h => rb (bmK o x h) fun _ h => rb (evEs ev es env h) fun xs h => bmD o x xs h := by simp only [evE, bind_rb]
@[simp] theorem e_isi {t : Ty} : evE ev (.isi a t) env h = rb (evE ev a env h) fun x h => match isTy h t x with | some k => .ok (.bl k) h | none => .bad := by
  simp only [evE, bind_rb] <;> rfl
@[simp] theorem es_nil : evEs ev .nil env h = .ok [] h := rfl
@[simp] theorem es_cons : evEs ev (.cons a es) env h = rb (evE ev a env h) fun x h => rb (evEs ev es env h) fun xs h => .ok (x :: xs) h := by simp only [evEs, bind_rb, M.pure]
@[simp] theorem i_seq : evI ev (.seq a) env h = rb (evE ev a env h) fun x h => wkOf x h := by simp only [evI, bind_rb]
@[simp] theorem i_rng : evI ev (.rng a) env h = rb (evE ev a env h) fun x h => wkRng x h := by simp only [evI, bind_rb]
theorem lift_rs {α : Type} {m : M α} {k : α → Hh → SR} : liftE m env k h = rs (m h) env k := by
  unfold liftE
  cases m h <;> rfl
@[simp] theorem ss_nil : exSs ev .nil env h = .nxt env h := rfl
@[simp] theorem ss_cons {s : CS} {ss : CSs} : exSs ev (.cons s ss) env h = sb (exS ev s env h) fun env h => exSs ev ss env h := by
  simp only [exSs]
  cases exS ev s env h <;> rfl
@[simp] theorem s_ret : exS ev (.ret a) env h = rs (evE ev a env h) env fun d h => .ret d h := by simp only [exS, lift_rs]
@[simp] theorem s_retN : exS ev .retN env h = .ret .non h := rfl
@[simp] theorem s_expr : exS ev (.expr a) env h = rs (evE ev a env h) env fun _ h => .nxt env h := by simp only [exS, lift_rs]
@[simp] theorem s_asg {i : Nat} : exS ev (.asg (.name i) a) env h = rs (evE ev a env h) env fun d h => .nxt (env.set i (some d)) h := by simp only [exS, lift_rs, asgT]
theorem s_asgT {t : Tg} : exS ev (.asg t a) env h = rs (evE ev a env h) env fun d h => match asgT t d env with | some env' => .nxt env' h | none => .bad := by
  simp only [exS, lift_rs] <;> rfl
@[simp] theorem s_par {i j : Nat} : exS ev (.par [i, j] (.cons a (.cons b .nil))) env h = rs (evE ev a env h) env fun x h => rs (evE ev b env h) env fun y h => .nxt ((env.set i (some x)).set j (some y)) h := by
  simp only [exS, lift_rs, es_cons, es_nil]
  cases evE ev a env h with
  | ok x h1 =>
    simp only [rb_ok, rs_ok]
    cases evE ev b env h1 <;> rfl
  | exc x h1 => rfl
  | bad => rfl
@[simp] theorem s_if {p q : CSs} : exS ev (.ifS a p q) env h = rs (rb (evE ev a env h) fun x h => tru x h) env fun k h => if k = true then exSs ev p env h else exSs ev q env h := by
  simp only [exS, lift_rs, bind_rb]
  congr 1
  funext k h
  cases k <;> rfl
@[simp] theorem s_sets : exS ev (.sets a b c) env h = rs (rb (evE ev c env h) fun v h => rb (evE ev a env h) fun x h => rb (evE ev b env h) fun y h => setD x y v h) env fun _ h => .nxt env h := by simp only [exS, lift_rs, bind_rb]
@[simp] theorem s_raiseM {c : Nat} : exS ev (.raiseM c) env h = .exc ⟨c, []⟩ env h := rfl
@[simp] theorem s_raiseI {pg : Pg} {n f c : Nat} {t : Option (M D)} {x : Option XV} : exS ⟨pg, tabs pg (n + 2), t, x⟩ (.raiseI c f a) env h = rs (evE ⟨pg, tabs pg (n + 2), t, x⟩ a env h) env fun d h => .exc ⟨c, [(f, d)]⟩ env h := by
  simp only [exS, tabs, lift_rs]
@[simp] theorem s_for {t : Tg} {it : It} {b : CSs} : exS ev (.forS t it b) env h = rs (evI ev it env h) env fun wk h => loopF (fun d env h => match asgT t d env with | some env' => exSs ev b env' h | none => .bad) wk.len wk env h := by
  simp only [exS, lift_rs] <;> rfl
@[simp] theorem s_while {b : CSs} : exS ev (.whileS a b) env h = loopW (fun env => M.bind (evE ev a env) tru) (fun env h => exSs ev b env h) ev.pg.W env h := by simp only [exS]
@[simp] theorem tru_bl {k : Bool} : tru (.bl k) h = .ok k h := rfl
@[simp] theorem tru_non : tru .non h = .ok false h := rfl
@[simp] theorem tru_int {i : Int} : tru (.int i) h = .ok (i != 0) h := rfl
@[simp] theorem tru_tup {xs : List D} : tru (.tup xs) h = .ok (!xs.isEmpty) h := rfl
@[simp] theorem isTy_non {t : Ty} : isTy h t .non = some false := rfl
@[simp] theorem isTy_bl {t : Ty} {k : Bool} : isTy h t (.bl k) = some (t == .int || t == .bool) := rfl
@[simp] theorem isTy_int {t : Ty} {i : Int} : isTy h t (.int i) = some (t == .int) := rfl
@[simp] theorem isTy_str {t : Ty} {x : Str} : isTy h t (.str x) = some (t == .str) := rfl
@[simp] theorem isTy_tup {t : Ty} {xs : List D} : isTy h t (.tup xs) = some (t == .tuple) := rfl
theorem isTy_lst {t : Ty} {r : Nat} {xs : List D} (e : h[r]? = some (.lst xs)) : isTy h t (.ref r) = some (t == .list) := by simp only [isTy, e]
theorem isTy_dct {t : Ty} {r : Nat} {xs : List (D × D)} (e : h[r]? = some (.dct xs)) : isTy h t (.ref r) = some (t == .dict) := by simp only [isTy, e]
@[simp] theorem ty_beq (s t : Ty) : (s == t) = decide (s = t) := rfl
@[simp] theorem add_int {i j : Int} : binD .add (.int i) (.int j) h = .ok (.int (i + j)) h := rfl
@[simp] theorem sub_int {i j : Int} : binD .sub (.int i) (.int j) h = .ok (.int (i - j)) h := rfl
theorem mul_int {i j : Int} (z : i.natAbs.log2 + j.natAbs.log2 < 1000000) : binD .mul (.int i) (.int j) h = .ok (.int (i * j)) h := by
  simp only [binD, mulD, if_pos z, M.pure]
theorem fdiv_int {i j : Int} (z : 0 < j ∧ j.natAbs.log2 < 9000) : binD .fdiv (.int i) (.int j) h = .ok (.int (i / j)) h := by
  simp only [binD, fdivD, if_pos z, M.pure]
theorem mod_int {i j : Int} (z : 0 < j) : binD .mod (.int i) (.int j) h = .ok (.int (i % j)) h := by
  simp only [binD, modD, if_pos z, M.pure]
theorem pow_int {i j : Int} (z : 0 ≤ j ∧ ((i.natAbs.log2 + 1 : Nat) : Int) * j ≤ 1000000) : binD .pow (.int i) (.int j) h = .ok (.int (i ^ j.toNat)) h := by
  simp only [binD, powD, if_pos z, M.pure]
@[simp] theorem lt_int {i j : Int} : cmpD .lt (.int i) (.int j) h = .ok (.bl (decide (i < j))) h := rfl
@[simp] theorem le_int {i j : Int} : cmpD .le (.int i) (.int j) h = .ok (.bl (decide (i ≤ j))) h := rfl
@[simp] theorem gt_int {i j : Int} : cmpD .gt (.int i) (.int j) h = .ok (.bl (decide (j < i))) h := rfl
@[simp] theorem ge_int {i j : Int} : cmpD .ge (.int i) (.int j) h = .ok (.bl (decide (j ≤ i))) h := rfl
@[simp] theorem eq_int {i j : Int} : cmpD .eq (.int i) (.int j) h = .ok (.bl (decide (i = j))) h := rfl
@[simp] theorem ne_int {i j : Int} : cmpD .ne (.int i) (.int j) h = .ok (.bl (!decide (i = j))) h := rfl
@[simp] theorem idx_tup0 {x : D} {xs : List D} : idxD (.tup (x :: xs)) (.int 0) h = .ok x h := by
  simp only [idxD, seqOf, L2.atI, L2.ixN]
  simp
@[simp] theorem idx_tup1 {x y : D} {xs : List D} : idxD (.tup (x :: y :: xs)) (.int 1) h = .ok y h := by
  simp only [idxD, seqOf, L2.atI, L2.ixN]
  have : (1 : Int) < ((xs.length : Int) + 1 + 1) := by omega
  simp [this]
end
/-! ### comprehensions -/
theorem loopC_none {turn : D → M (Option D)} {r n : Nat} {wk : Wk} {h : Hh} (e : wk.next h = none) : loopC turn r n wk h = .bad := by
  rw [loopC.eq_def]
  simp only [e]
theorem loopC_stop {turn : D → M (Option D)} {r n : Nat} {wk : Wk} {h : Hh} (e : wk.next h = some none) : loopC turn r n wk h = .ok () h := by
  rw [loopC.eq_def]
  simp only [e]
theorem loopC_step {turn : D → M (Option D)} {r m : Nat} {wk wk' : Wk} {h : Hh} {d : D} (e : wk.next h = some (some (d, wk'))) : loopC turn r (m + 1) wk h = rb (turn d h) fun o h' => match o with
    | some y => rb (app r y h') fun _ h' => loopC turn r m wk' h'
    | none => loopC turn r m wk' h' := by
  rw [loopC.eq_def]
  simp only [e, bind_rb]
  congr 1
  funext o h'
  cases o <;> simp only [bind_rb]
theorem loopC_wp {turn : D → M (Option D)} {r : Nat} {Q : Unit → Hh → Prop} {E : XV → Hh → Prop} (I : Nat → Wk → Hh → Prop)
    (step : ∀ n wk h, I n wk h → match wk.next h with
      | none => False
      | some none => Q () h
      | some (some (d, wk')) => ∃ m, n = m + 1 ∧ wp (turn d h) (fun o h' => match o with
        | some y => ∃ xs, h'[r]? = some (.lst xs) ∧ xs.length < sizeLine ∧ I m wk' (h'.set r (.lst (xs ++ [y])))
        | none => I m wk' h') (fun _ _ => False)) :
    ∀ (n : Nat) (wk : Wk) (h : Hh), I n wk h → wp (loopC turn r n wk h) Q E := by
  intro n
  induction n with
  | zero =>
    intro wk h hI
    have s := step 0 wk h hI
    cases e : wk.next h with
    | none =>
      rw [e] at s
      exact s.elim
    | some o =>
      cases o with
      | none =>
        rw [e] at s
        rw [loopC_stop e]
        exact s
      | some y =>
        obtain ⟨d, wk'⟩ := y
        rw [e] at s
        obtain ⟨m, hm, _⟩ := s
        cases hm
  | succ n ih =>
    intro wk h hI
    have s := step (n + 1) wk h hI
    cases e : wk.next h with
    | none =>
      rw [e] at s
      exact s.elim
    | some o =>
      cases o with
      | none =>
        rw [e] at s
        rw [loopC_stop e]
        exact s
      | some y =>
        obtain ⟨d, wk'⟩ := y
        rw [e] at s
        obtain ⟨m, hm, w⟩ := s
        cases hm
        rw [loopC_step e, wp_rb]
        refine wp_mono w (fun o h' z => ?_) fun _ _ z => z.elim
        cases o with
        | none => exact ih wk' h' z
        | some y =>
          obtain ⟨xs, e1, e2, e3⟩ := z
          have e4 : app r y h' = .ok () (h'.set r (.lst (xs ++ [y]))) := by
            simp only [app, e1, if_pos e2]
          rw [wp_rb, e4]
          exact ih wk' _ e3
def nx {α : Type} (r : R α) : R α := match r with
  | .exc _ _ => .bad
  | r => r
@[simp] theorem nx_ok {α : Type} {a : α} {h : Hh} : nx (.ok a h) = .ok a h := rfl
@[simp] theorem nx_bad {α : Type} : nx (.bad : R α) = .bad := rfl
theorem wp_nx {α : Type} {r : R α} {Q : α → Hh → Prop} {E : XV → Hh → Prop} : wp (nx r) Q E = wp r Q (fun _ _ => False) := by cases r <;> rfl
theorem noX_nx {α : Type} {m : M α} {h : Hh} : noX m h = nx (m h) := rfl
/-- a turn -/
theorem turn_eq {ev : Ev} {elt : CE} {own : List Nat} {tg : Tg} {cond : CEs} {env env' : Env} {v : D} {h : Hh} (e : asgT tg v (wipeE env own) = some env') : turnM ev elt own tg cond env v h = nx (rb (condM ev cond env' h) fun k h => if k = true then rb (evE ev elt env' h) fun y h => .ok (some y) h else .ok none h) := by
  unfold turnM
  rw [noX_nx, e]
  simp only [bind_rb]
  congr 2
  funext k h
  cases k <;> simp only [bind_rb] <;> rfl
@[simp] theorem cond_nil {ev : Ev} {env : Env} {h : Hh} : condM ev .nil env h = .ok true h := rfl
@[simp] theorem cond_one {ev : Ev} {env : Env} {h : Hh} {c : CE} : condM ev (.cons c .nil) env h = rb (evE ev c env h) fun x h => tru x h := by
  simp only [condM, bind_rb]
theorem e_comp {ev : Ev} {elt : CE} {own : List Nat} {tg : Tg} {it : It} {cond : CEs} {env : Env} {h : Hh} : evE ev (.comp elt own tg it cond) env h = rb (evI ev it env h) fun wk h => rb (loopC (turnM ev elt own tg cond env) h.length wk.len wk (h ++ [.lst []])) fun _ h' => .ok (.ref h.length) h' := by
  rw [comp_eq]
  simp only [bind_rb]
  congr 1
/-- the items that stand ahead -/
def Wk.items : Wk → Option (List D)
  | .tup xs => some xs
  | .str cs => some (cs.map sign1)
  | .rng lo n => some ((List.range n).map fun (k : Nat) => .int (lo + (k : Int)))
  | .lst _ _ _ => none
theorem items_len {wk : Wk} {xs : List D} (e : wk.items = some xs) : wk.len = xs.length := by
  cases wk <;> cases e <;> simp [Wk.len]
theorem items_nil {wk : Wk} (h : Hh) (e : wk.items = some []) : wk.next h = some none := by
  cases wk with
  | tup xs =>
    cases e
    rfl
  | str cs =>
    cases cs with
    | nil => rfl
    | cons c r => cases e
  | rng lo n =>
    cases n with
    | zero => rfl
    | succ n =>
      simp only [Wk.items, Option.some.injEq] at e
      simp at e
  | lst r i k => cases e
theorem items_cons {wk : Wk} {d : D} {xs : List D} (h : Hh) (e : wk.items = some (d :: xs)) : ∃ wk', wk.next h = some (some (d, wk')) ∧ wk'.items = some xs := by
  cases wk with
  | tup ys =>
    cases e
    exact ⟨_, rfl, rfl⟩
  | str cs =>
    cases cs with
    | nil => cases e
    | cons c r =>
      cases e
      exact ⟨_, rfl, rfl⟩
  | rng lo n =>
    cases n with
    | zero =>
      simp only [Wk.items, Option.some.injEq] at e
      simp at e
    | succ n =>
      simp only [Wk.items, Option.some.injEq, List.range_succ_eq_map, List.map_cons, List.cons.injEq] at e
      obtain ⟨e1, e2⟩ := e
      refine ⟨.rng (lo + 1) n, ?_, ?_⟩
      · simp only [Wk.next]
        rw [← e1]
        simp
      · rw [← e2]
        simp only [Wk.items, List.map_map, Option.some.injEq]
        apply List.map_congr_left
        intro k _
        simp only [Function.comp]
        congr 1
        push_cast
        omega
  | lst r i k => cases e
/-- a comprehension: I by what is still to come and the heap, the list itself at r -/
theorem comp_wp {ev : Ev} {elt : CE} {own : List Nat} {tg : Tg} {cond : CEs} {env : Env} {wk : Wk} {xs : List D} {h : Hh} {Q : Unit → Hh → Prop} {E : XV → Hh → Prop} (ew : wk.items = some xs) (I : List D → List D → Hh → Prop) (h0 : I xs [] (h ++ [.lst []]))
    (at_ : ∀ ys acc h', I ys acc h' → h'[h.length]? = some (.lst acc) ∧ acc.length + ys.length ≤ sizeLine)
    (step : ∀ d ys acc h', I (d :: ys) acc h' → wp (turnM ev elt own tg cond env d h') (fun o h'' => match o with
      | some y => h''[h.length]? = some (.lst acc) ∧ I ys (acc ++ [y]) (h''.set h.length (.lst (acc ++ [y])))
      | none => I ys acc h'') (fun _ _ => False))
    (fin : ∀ acc h', I [] acc h' → Q () h') : wp (loopC (turnM ev elt own tg cond env) h.length wk.len wk (h ++ [.lst []])) Q E := by
  refine loopC_wp (fun n wk h' => ∃ ys acc, wk.items = some ys ∧ n = ys.length ∧ I ys acc h') ?_ _ _ _ ⟨xs, [], ew, items_len ew, h0⟩
  rintro n wk h' ⟨ys, acc, e, rfl, hI⟩
  cases ys with
  | nil =>
    rw [items_nil h' e]
    exact fin acc h' hI
  | cons d ys =>
    obtain ⟨wk', e1, e2⟩ := items_cons h' e
    rw [e1]
    refine ⟨ys.length, rfl, wp_mono (step d ys acc h' hI) (fun o h'' z => ?_) fun _ _ z => z⟩
    have hl := (at_ _ _ _ hI).2
    cases o with
    | none => exact ⟨ys, acc, e2, rfl, z⟩
    | some y =>
      refine ⟨acc, z.1, ?_, ys, acc ++ [y], e2, rfl, z.2⟩
      rw [List.length_cons] at hl
      omega
theorem set_last {h : Hh} {a b : MO} : (h ++ [a]).set h.length b = h ++ [b] := by
  rw [List.set_append_right _ _ (Nat.le_refl _)]
  simp
@[simp] theorem get_last {h : Hh} {a : MO} : (h ++ [a])[h.length]? = some a := by simp
/-- a comprehension whose turns leave the heap as it is -/
theorem comp_pure {ev : Ev} {elt : CE} {own : List Nat} {tg : Tg} {cond : CEs} {env : Env} {wk : Wk} {xs : List D} {h : Hh} (g : D → Option D) (ew : wk.items = some xs) (hl : xs.length ≤ sizeLine)
    (ht : ∀ x ∈ xs, ∀ acc, turnM ev elt own tg cond env x (h ++ [.lst acc]) = .ok (g x) (h ++ [.lst acc])) :
    loopC (turnM ev elt own tg cond env) h.length wk.len wk (h ++ [.lst []]) = .ok () (h ++ [.lst (xs.filterMap g)]) := by
  have key : wp (loopC (turnM ev elt own tg cond env) h.length wk.len wk (h ++ [.lst []])) (fun a h' => a = () ∧ h' = h ++ [.lst (xs.filterMap g)]) (fun _ _ => False) := by
    refine comp_wp ew (fun ys acc h' => h' = h ++ [.lst acc] ∧ (∃ zs, xs = zs ++ ys ∧ acc = zs.filterMap g)) ⟨rfl, [], rfl, rfl⟩ ?_ ?_ ?_
    · rintro ys acc h' ⟨rfl, zs, e, rfl⟩
      refine ⟨get_last, ?_⟩
      have h1 := List.length_filterMap_le g zs
      have h2 := congrArg List.length e
      rw [List.length_append] at h2
      omega
    · rintro d ys acc h' ⟨rfl, zs, e, rfl⟩
      rw [ht d (by rw [e]; simp)]
      cases eg : g d with
      | none => exact ⟨rfl, zs ++ [d], by rw [e]; simp, by simp [eg]⟩
      | some y => exact ⟨get_last, by rw [set_last], zs ++ [d], by rw [e]; simp, by simp [eg]⟩
    · rintro acc h' ⟨rfl, zs, e, rfl⟩
      refine ⟨rfl, ?_⟩
      rw [e, List.append_nil]
  cases e : loopC (turnM ev elt own tg cond env) h.length wk.len wk (h ++ [.lst []]) with
  | ok a h' =>
    rw [e] at key
    rw [key.2]
  | exc x h' =>
    rw [e] at key
    exact key.elim
  | bad =>
    rw [e] at key
    exact key.elim
end MX
namespace K01
open PySem L2 MX
/-- a value whose type can be asked -/
def Wd (h : Hh) : D → Prop
  | .scr _ => False
  | .ref r => (∃ xs, h[r]? = some (.lst xs)) ∨ ∃ kvs, h[r]? = some (.dct kvs)
  | _ => True
def isInt : D → Bool
  | .int _ => true
  | _ => false
theorem is_integer {n : Nat} {h : Hh} {d : D} (w : Wd h d) : cf pg n 0 [d] h = .ok (.bl (isInt d)) h := by
  rw [cf_eq (fd := d0) rfl rfl rfl]
  cases d with
  | ref r => rcases w with ⟨xs, e⟩ | ⟨kvs, e⟩ <;> simp [b0, isInt, isTy_lst, isTy_dct, e]
  | scr ns => exact w.elim
  | _ => simp [b0, isInt]
theorem is_between {n : Nat} {h : Hh} {d : D} {lo : Int} (w : Wd h d) : cf pg (n + 1) 1 [d, .int lo, .non] h = .ok (.bl (match d with | .int i => decide (lo ≤ i) | _ => false)) h := by
  rw [cf_eq (fd := d1) rfl rfl rfl]
  cases d with
  | int i => by_cases hl : lo ≤ i <;> simp [b1, is_integer w, isInt, hl]
  | _ => simp [b1, is_integer w, isInt]
theorem of_wp {α : Type} {r : R α} {v : α} {h : Hh} (w : wp r (fun a h' => a = v ∧ h' = h) (fun _ _ => False)) : r = .ok v h := by
  cases r with
  | ok a h' =>
    obtain ⟨rfl, rfl⟩ := w
    rfl
  | exc x h' => exact w.elim
  | bad => exact w.elim
theorem common_divisor {n m k : Nat} {h : Hh} (hk : k < 10 ^ 5000) : cf pg n 3 [.int m, .int k] h = .ok (.int (Nat.gcd m k : Nat)) h := by
  rw [cf_eq (fd := d3) rfl rfl rfl]
  refine of_wp ?_
  simp only [b3, wp_ret, ss_cons, s_while, wps_sb]
  refine while_wp (fun j env h' => ∃ m' : Nat, env = [some (.int m'), some (.int j)] ∧ Nat.gcd m' j = Nat.gcd m k ∧ h' = h) ?_ _ k _ _ hk ⟨m, rfl, rfl, rfl⟩
  rintro j env h' ⟨m', rfl, e, rfl⟩
  rw [bind_rb]
  by_cases hj : j = 0
  · subst hj
    simp at e
    simp [e]
  · have h0 : (0 : Int) < j := by omega
    have e2 : ((m' : Int) % (j : Int)) = ((m' % j : Nat) : Int) := by simp
    have e3 : Nat.gcd j (m' % j) = Nat.gcd m k := by rw [← e, Nat.gcd_comm, ← Nat.gcd_rec, Nat.gcd_comm]
    have hlt : m' % j < j := Nat.mod_lt _ (by omega)
    simp [hj, mod_int h0]
    exact ⟨m' % j, hlt, j, ⟨rfl, by simp⟩, e3⟩
theorem law_divisor {n m k : Nat} {h : Hh} (hk : k < 10 ^ 5000) : cf pg n 21 [.int m, .int k] h = .ok (.int (Nat.gcd m k : Nat)) h := by
  rw [cf_eq (fd := d21) rfl rfl rfl]
  refine of_wp ?_
  simp only [b21, wp_ret, ss_cons, s_while, wps_sb]
  refine while_wp (fun j env h' => ∃ m' : Nat, env = [some (.int m'), some (.int j)] ∧ Nat.gcd m' j = Nat.gcd m k ∧ h' = h) ?_ _ k _ _ hk ⟨m, rfl, rfl, rfl⟩
  rintro j env h' ⟨m', rfl, e, rfl⟩
  rw [bind_rb]
  by_cases hj : j = 0
  · subst hj
    simp at e
    simp [e]
  · have h0 : (0 : Int) < j := by omega
    have e3 : Nat.gcd j (m' % j) = Nat.gcd m k := by rw [← e, Nat.gcd_comm, ← Nat.gcd_rec, Nat.gcd_comm]
    have hlt : m' % j < j := Nat.mod_lt _ (by omega)
    have hp : 0 < j := by omega
    simp [hp, mod_int h0, btD, bt1, M.pure]
    exact ⟨m' % j, hlt, j, ⟨rfl, by simp⟩, e3⟩
/-! ### fractions -/
/-- an int that is not too long for the walk -/
def Sm (i : Int) : Prop := i.natAbs < 10 ^ 100
/-- a value that the laws ask about -/
def Ask (h : Hh) (d : D) : Prop := Wd h d ∧ ∀ xs, d = .tup xs → ∀ x ∈ xs, Wd h x ∧ ∀ i, x = .int i → Sm i
/-- a fraction in its lowest terms -/
def isFr : D → Bool
  | .tup [.int a, .int b] => decide (0 ≤ a) && decide (1 ≤ b) && decide (Int.gcd a b = 1)
  | _ => false
theorem pow_big {k : Nat} (h : k < 10 ^ 100) : k < 10 ^ 5000 := Nat.lt_trans h (Nat.pow_lt_pow_right (by decide) (by decide))
theorem gcd_call {n : Nat} {a b : Int} {h : Hh} (ha : 0 ≤ a) (hb : 0 ≤ b) (sb : Sm b) : cf pg n 3 [.int a, .int b] h = .ok (.int (Int.gcd a b)) h := by
  obtain ⟨m, rfl⟩ := Int.eq_ofNat_of_zero_le ha
  obtain ⟨k, rfl⟩ := Int.eq_ofNat_of_zero_le hb
  exact common_divisor (pow_big sb)
theorem div_call {n : Nat} {a b : Int} {h : Hh} (ha : 0 ≤ a) (hb : 0 ≤ b) (sb : Sm b) : cf pg n 21 [.int a, .int b] h = .ok (.int (Int.gcd a b)) h := by
  obtain ⟨m, rfl⟩ := Int.eq_ofNat_of_zero_le ha
  obtain ⟨k, rfl⟩ := Int.eq_ofNat_of_zero_le hb
  exact law_divisor (pow_big sb)
theorem len_tup {xs : List D} {h : Hh} : btD .len [.tup xs] h = .ok (.int xs.length) h := rfl
theorem is_fraction {n : Nat} {h : Hh} {d : D} (w : Ask h d) : cf pg (n + 2) 4 [d] h = .ok (.bl (isFr d)) h := by
  rw [cf_eq (fd := d4) rfl rfl rfl]
  obtain ⟨w1, w2⟩ := w
  cases d with
  | tup xs =>
    match xs, w2 with
    | [], _ => simp [b4, len_tup, isFr]
    | [x], _ => simp [b4, len_tup, isFr]
    | x :: y :: z :: r, _ =>
      have : ¬ ((r.length : Int) + 1 + 1 + 1 = 2) := by omega
      simp [b4, len_tup, isFr, this]
    | [x, y], w2 =>
      obtain ⟨wx, sx⟩ := w2 _ rfl x (by simp)
      obtain ⟨wy, sy⟩ := w2 _ rfl y (by simp)
      cases x with
      | int a =>
        by_cases ha : 0 ≤ a
        · cases y with
          | int b =>
            by_cases hb : 1 ≤ b
            · have hb0 : 0 ≤ b := by omega
              simp [b4, len_tup, is_between wx, is_between wy, isFr, ha, hb, gcd_call ha hb0 (sy b rfl)]
              omega
            · simp [b4, len_tup, is_between wx, is_between wy, isFr, ha, hb]
          | _ => simp [b4, len_tup, is_between wx, is_between wy, isFr, ha]
        · cases y <;> simp [b4, len_tup, is_between wx, isFr, ha]
      | _ => simp [b4, len_tup, is_between wx, isFr]
  | ref r => rcases w1 with ⟨xs, e⟩ | ⟨kvs, e⟩ <;> simp [b4, isFr, isTy_lst, isTy_dct, e]
  | scr ns => exact w1.elim
  | _ => simp [b4, isFr]
end K01
namespace MX
open PySem PySem.Builtin.Str L2
open PyProof.Rows (int_text_len_1921)
/-! ### what repr shows -/
def tx (x : Str) : Bool := x.cps.all (· < 0x110000)
theorem tx_lay (x : Str) : PyData.canLay0 (.str x) = tx x := rfl
theorem tx_app {a b : Str} : tx (a ++ b) = (tx a && tx b) := by
  show (a.cps ++ b.cps).all _ = _
  rw [Array.all_append]
  rfl
theorem tx_iff {x : Str} : tx x = true ↔ ∀ c ∈ x.cps.toList, c < 0x110000 := by
  unfold tx
  rw [← Array.all_toList, List.all_eq_true]
  simp only [decide_eq_true_eq]
theorem tx_of (s : String) : tx (Str.ofString s) = true := by
  rw [Str.ofString_eq_toList, tx_iff]
  intro c hc
  simp only [List.mem_map] at hc
  obtain ⟨k, _, rfl⟩ := hc
  rcases k.valid with h | ⟨_, h⟩
  · exact Nat.lt_trans h (by decide)
  · exact h
theorem len_app {a b : Str} : (a ++ b).length = a.length + b.length := strLen_append a b
theorem tx_from : ∀ (ts : List Str) (k : Nat) (acc : Str), tx acc = true → (∀ t ∈ ts, tx t = true) → tx (textFrom k acc ts) = true
  | [], _, _, h, _ => h
  | t :: r, k, acc, h, ht => by
    refine tx_from r (k + 1) _ ?_ fun t h => ht t (List.mem_cons_of_mem _ h)
    rw [tx_app, tx_app, h, ht t List.mem_cons_self]
    split <;> simp [tx_of]
theorem len_from : ∀ (ts : List Str) (k : Nat) (acc : Str), (textFrom k acc ts).length ≤ acc.length + (ts.map fun t => t.length + 2).sum
  | [], _, acc => by simp [textFrom]
  | t :: r, k, acc => by
    have ih := len_from r (k + 1) (acc ++ (if k > 0 then ", " else "" : String) ++ t)
    have e : (acc ++ (if k > 0 then ", " else "" : String) ++ t).length ≤ acc.length + 2 + t.length := by
      rw [len_app, len_app]
      split
      · have : (Str.ofString ", ").length = 2 := rfl
        omega
      · have : (Str.ofString "").length = 0 := rfl
        omega
    simp only [textFrom, List.map_cons, List.sum_cons]
    omega
theorem tx_join : ∀ (ts : List Str), (∀ t ∈ ts, tx t = true) → tx (Str.join (Str.ofString ", ") ts) = true
  | [], _ => by decide +kernel
  | [x], h => h x (by simp)
  | x :: y :: r, h => by
    show tx (x ++ Str.ofString ", " ++ Str.join (Str.ofString ", ") (y :: r)) = true
    rw [tx_app, tx_app, h x (by simp), tx_of, tx_join (y :: r) fun t ht => h t (List.mem_cons_of_mem _ ht)]
    rfl
theorem len_join : ∀ (ts : List Str), (Str.join (Str.ofString ", ") ts).length ≤ (ts.map fun t => t.length + 2).sum
  | [] => by
    show (Str.empty).length ≤ _
    exact Nat.zero_le _
  | [x] => by
    show x.length ≤ _
    simp
  | x :: y :: r => by
    show (x ++ Str.ofString ", " ++ Str.join (Str.ofString ", ") (y :: r)).length ≤ _
    have ih := len_join (y :: r)
    have e : (Str.ofString ", ").length = 2 := rfl
    rw [len_app, len_app, e, List.map_cons, List.sum_cons]
    omega
theorem hex_ok (c : Nat) : ∀ k ∈ (Nat.toDigits 16 c).map Char.toNat, k < 0x110000 := by
  intro k hk
  obtain ⟨d, _, rfl⟩ := List.mem_map.mp hk
  rcases d.valid with h | ⟨_, h⟩
  · exact Nat.lt_trans h (by decide)
  · exact h
theorem char_ok {q c : Nat} (hq : q < 0x110000) (hc : c < 0x110000) : ∀ k ∈ reprChar q c, k < 0x110000 := by
  intro k hk
  have hx : ∀ w, ∀ k ∈ (List.replicate (w - ((Nat.toDigits 16 c).map Char.toNat).length) 48 ++ (Nat.toDigits 16 c).map Char.toNat), k < 0x110000 := fun w k h => by
    rcases List.mem_append.mp h with h | h
    · rw [(List.mem_replicate.mp h).2]
      decide
    · exact hex_ok c k h
  unfold reprChar at hk
  dsimp only at hk
  repeat' split at hk
  all_goals first
    | (simp only [List.mem_cons, List.not_mem_nil, or_false] at hk; omega)
    | (rcases List.mem_append.mp hk with h | h
       · simp only [List.mem_cons, List.not_mem_nil, or_false] at h
         omega
       · exact hx _ k h)
theorem fold_ok {q : Nat} (hq : q < 0x110000) : ∀ (l : List Nat) (acc : Array Nat), (∀ c ∈ l, c < 0x110000) → (∀ c ∈ acc.toList, c < 0x110000) → ∀ c ∈ (l.foldl (fun out c => out ++ (reprChar q c).toArray) acc).toList, c < 0x110000
  | [], acc, _, h => h
  | c :: r, acc, hl, h => by
    rw [List.foldl_cons]
    refine fold_ok hq r _ (fun d hd => hl d (List.mem_cons_of_mem _ hd)) ?_
    intro d hd
    rw [Array.toList_append] at hd
    rcases List.mem_append.mp hd with z | z
    · exact h d z
    · exact char_ok hq (hl c List.mem_cons_self) d (by simpa using z)
theorem tx_repr {x : Str} (h : tx x = true) : tx (reprText x) = true := by
  rw [tx_iff] at h ⊢
  have hq : reprQuote x < 0x110000 := by
    unfold reprQuote
    split <;> decide
  intro c hc
  unfold reprText at hc
  rw [Array.toList_push, ← Array.foldl_toList] at hc
  rcases List.mem_append.mp hc with z | z
  · refine fold_ok hq _ _ h ?_ c z
    intro d hd
    have : d = reprQuote x := by simpa using hd
    rw [this]
    exact hq
  · have : c = reprQuote x := by simpa using z
    rw [this]
    exact hq
mutual
/-- data that can be shown and compared: no long ints, plain texts, no dict but an empty one -/
def goodP : PyData → Bool
  | .none => true
  | .bool _ => true
  | .int i => decide (i.natAbs.log2 < 1920)
  | .str x => tx x
  | .list xs => goodPs xs
  | .tuple xs => goodPs xs
  | .dict kvs => kvs.isEmpty
def goodPs : List PyData → Bool
  | [] => true
  | p :: r => goodP p && goodPs r
end
mutual
/-- how long the text is at most -/
def szP : PyData → Nat
  | .none => 4
  | .bool _ => 5
  | .int _ => 1921
  | .str x => 10 * x.length + 2
  | .list xs => szPs xs + 2
  | .tuple xs => szPs xs + 3
  | .dict _ => 2
def szPs : List PyData → Nat
  | [] => 0
  | p :: r => szP p + 2 + szPs r
end
mutual
theorem good_show : ∀ p : PyData, goodP p = true → tx p.shown = true ∧ p.shown.length ≤ szP p ∧ p.showable = true
  | .none, _ => ⟨tx_of _, Nat.le_refl _, rfl⟩
  | .bool b, _ => by
    cases b
    · exact ⟨tx_of "False", Nat.le_refl _, rfl⟩
    · exact ⟨tx_of "True", by decide, rfl⟩
  | .int i, h => by
    simp only [goodP, decide_eq_true_eq] at h
    refine ⟨tx_of _, PyProof.Rows.int_text_len_1921 h, ?_⟩
    simp only [PyData.showable, decide_eq_true_eq]
    exact h
  | .str x, h => by
    simp only [goodP] at h
    refine ⟨tx_repr h, StrLaws.reprText_len x (fun c hc => ?_), rfl⟩
    have := tx_iff.mp h c hc
    exact Nat.lt_trans this (by decide)
  | .list xs, h => by
    simp only [goodP] at h
    obtain ⟨h1, h2, h3⟩ := good_shows xs h
    refine ⟨?_, ?_, h3⟩
    · show tx (textFrom 0 (Str.ofString "[") (PyData.shownAll xs) ++ Str.ofString "]") = true
      rw [tx_app, tx_from _ _ _ (tx_of _) h1, tx_of]
      rfl
    · show (textFrom 0 (Str.ofString "[") (PyData.shownAll xs) ++ Str.ofString "]").length ≤ szPs xs + 2
      have := len_from (PyData.shownAll xs) 0 (Str.ofString "[")
      have e1 : (Str.ofString "[").length = 1 := rfl
      have e2 : (Str.ofString "]").length = 1 := rfl
      rw [len_app]
      omega
  | .tuple xs, h => by
    simp only [goodP] at h
    obtain ⟨h1, h2, h3⟩ := good_shows xs h
    refine ⟨?_, ?_, h3⟩
    · show tx ((Str.ofString "(" ++ Str.join (Str.ofString ", ") (PyData.shownAll xs)) ++ (Str.ofString (if (PyData.shownAll xs).length == 1 then ",)" else ")"))) = true
      rw [tx_app, tx_app, tx_join _ h1, tx_of, tx_of]
      rfl
    · show ((Str.ofString "(" ++ Str.join (Str.ofString ", ") (PyData.shownAll xs)) ++ (Str.ofString (if (PyData.shownAll xs).length == 1 then ",)" else ")"))).length ≤ szPs xs + 3
      have := len_join (PyData.shownAll xs)
      have e1 : (Str.ofString "(").length = 1 := rfl
      have e2 : (Str.ofString (if (PyData.shownAll xs).length == 1 then ",)" else ")")).length ≤ 2 := by
        split <;> decide
      rw [len_app, len_app]
      omega
  | .dict kvs, h => by
    simp only [goodP, List.isEmpty_iff] at h
    subst h
    exact ⟨by decide +kernel, by decide +kernel, rfl⟩
theorem good_shows : ∀ ps : List PyData, goodPs ps = true → (∀ t ∈ PyData.shownAll ps, tx t = true) ∧ ((PyData.shownAll ps).map fun t => t.length + 2).sum ≤ szPs ps ∧ PyData.showableAll ps = true
  | [], _ => ⟨fun t h => (by cases h), Nat.le_refl _, rfl⟩
  | p :: r, h => by
    simp only [goodPs, Bool.and_eq_true] at h
    obtain ⟨a1, a2, a3⟩ := good_show p h.1
    obtain ⟨b1, b2, b3⟩ := good_shows r h.2
    refine ⟨fun t ht => ?_, ?_, ?_⟩
    · rcases List.mem_cons.mp ht with e | e
      · rw [e]
        exact a1
      · exact b1 t e
    · simp only [PyData.shownAll, List.map_cons, List.sum_cons, szPs]
      omega
    · simp only [PyData.showableAll, a3, b3, Bool.and_self]
end
end MX
namespace K01
open PySem L2 MX
/-! ### the bag -/
structure Bag (r k : Nat) (h : Hh) : Prop where
  ex : ∃ a b c : Int, h[r]? = some (.lst [.int a, .int b, .int c]) ∧ 0 ≤ a ∧ a < 10 ^ 700 ∧ 0 ≤ b ∧ b < 2 ^ 40 ∧ 0 ≤ c ∧ c ≤ k
/-- all but the object at r stays -/
structure Keep (r : Nat) (h h' : Hh) : Prop where
  len : h.length ≤ h'.length
  at_ : ∀ k o, k ≠ r → h[k]? = some o → h'[k]? = some o
theorem Keep.refl (r : Nat) (h : Hh) : Keep r h h := ⟨Nat.le_refl _, fun _ _ _ e => e⟩
theorem Keep.trans {r : Nat} {h h1 h2 : Hh} (a : Keep r h h1) (b : Keep r h1 h2) : Keep r h h2 := ⟨Nat.le_trans a.len b.len, fun k o n e => b.at_ k o n (a.at_ k o n e)⟩
theorem Keep.set {r : Nat} {h : Hh} (o : MO) : Keep r h (h.set r o) := ⟨by simp, fun k o' n e => by rw [List.getElem?_set_ne (Ne.symm n)]; exact e⟩
theorem Keep.app {r : Nat} {h : Hh} (g : Hh) : Keep r h (h ++ g) := ⟨by simp, fun k o' n e => by rw [List.getElem?_append_left (List.getElem?_eq_some_iff.mp e).1]; exact e⟩
theorem idx_lst {h : Hh} {r : Nat} {xs : List D} {k : Int} {d : D} (e : h[r]? = some (.lst xs)) (a : L2.atI xs k = some d) : idxD (.ref r) (.int k) h = .ok d h := by
  simp only [idxD, seqOf, e, a]
theorem set_lst {h : Hh} {r j : Nat} {xs : List D} {k : Int} {v : D} (e : h[r]? = some (.lst xs)) (a : L2.ixN xs.length k = some j) : setD (.ref r) (.int k) v h = .ok () (h.set r (.lst (xs.set j v))) := by
  simp only [setD, e, a]
theorem log_lt {i : Int} {n k : Nat} (h0 : 0 ≤ i) (h : i < (n : Int)) (hn : n ≤ 2 ^ k) (hk : 0 < k) : i.natAbs.log2 < k := by
  by_cases z : i.natAbs = 0
  · rw [z]
    simpa using hk
  · rw [Nat.log2_lt z]
    have : (i.natAbs : Int) = i := by omega
    omega
theorem mul_b {i j : Int} {h : Hh} (i0 : 0 ≤ i) (i1 : i < 2 ^ 1000) (j0 : 0 ≤ j) (j1 : j < 2 ^ 1000) : binD .mul (.int i) (.int j) h = .ok (.int (i * j)) h := by
  refine mul_int ?_
  have a := log_lt (n := 2 ^ 1000) (k := 1000) i0 (by exact_mod_cast i1) (Nat.le_refl _) (by decide)
  have b := log_lt (n := 2 ^ 1000) (k := 1000) j0 (by exact_mod_cast j1) (Nat.le_refl _) (by decide)
  omega
theorem big {i : Int} {n : Nat} (h : i < (n : Int)) (hn : n ≤ 2 ^ 1000) : i < 2 ^ 1000 := Int.lt_of_lt_of_le h (by exact_mod_cast hn)
theorem throw {n r k : Nat} {t : Int} {h : Hh} (B : Bag r k h) (hk : k < 10 ^ 9) (t0 : 0 < t) (t1 : t < 10 ^ 9) :
    wp (cf pg n 18 [.ref r, .int t] h) (fun v h' => ∃ i : Int, v = .int i ∧ 0 ≤ i ∧ i < t ∧ Bag r (k + 1) h' ∧ Keep r h h' ∧ h'.length = h.length) (fun _ _ => False) := by
  obtain ⟨a, b, c, e, a0, a1, b0, b1, c0, c1⟩ := B.ex
  have hr : r < h.length := (List.getElem?_eq_some_iff.mp e).1
  rw [cf_eq (fd := d18) rfl rfl rfl]
  have i0 : idxD (.ref r) (.int 0) h = .ok (.int a) h := idx_lst e rfl
  have i1 : idxD (.ref r) (.int 1) h = .ok (.int b) h := idx_lst e rfl
  have i2 : idxD (.ref r) (.int 2) h = .ok (.int c) h := idx_lst e rfl
  have lt : t.natAbs.log2 < 9000 := log_lt (n := 10 ^ 9) (by omega) (by exact_mod_cast t1) (by decide) (by decide)
  by_cases ha : 0 < a
  · have s0 : setD (.ref r) (.int 0) (.int (a / t)) h = .ok () (h.set r (.lst [.int (a / t), .int b, .int c])) := set_lst (j := 0) e rfl
    simp [b18, i0, ha, btD, bt1, M.pure, mod_int t0, fdiv_int ⟨t0, lt⟩, s0]
    refine ⟨Int.emod_nonneg _ (by omega), Int.emod_lt_of_pos _ t0, ⟨⟨a / t, b, c, by simp [hr], Int.ediv_nonneg a0 (by omega), ?_, b0, b1, c0, by omega⟩⟩, Keep.set _⟩
    exact Int.lt_of_le_of_lt (Int.ediv_le_self _ a0) a1
  · have s2 : setD (.ref r) (.int 2) (.int (c + 1)) h = .ok () (h.set r (.lst [.int a, .int b, .int (c + 1)])) := set_lst (j := 2) e rfl
    have e' : (h.set r (.lst [.int a, .int b, .int (c + 1)]))[r]? = some (.lst [.int a, .int b, .int (c + 1)]) := by simp [hr]
    have j1 : idxD (.ref r) (.int 1) (h.set r (.lst [.int a, .int b, .int (c + 1)])) = .ok (.int b) _ := idx_lst e' rfl
    have j2 : idxD (.ref r) (.int 2) (h.set r (.lst [.int a, .int b, .int (c + 1)])) = .ok (.int (c + 1)) _ := idx_lst e' rfl
    have c2 : c + 1 < 2 ^ 40 := by omega
    have m1 : ∀ H, binD .mul (.int 1000357) (.int (c + 1)) H = .ok (.int (1000357 * (c + 1))) H := fun H => mul_b (by decide) (by decide) (by omega) (big (n := 2 ^ 40) (by omega) (by decide))
    generalize hone : (b + 1000357 * (c + 1)) % 2305843009213693951 = one
    have o0 : 0 ≤ one := by rw [← hone]; exact Int.emod_nonneg _ (by decide)
    have o1 : one < 2305843009213693951 := by rw [← hone]; exact Int.emod_lt_of_pos _ (by decide)
    have m2 : ∀ H, binD .mul (.int one) (.int one) H = .ok (.int (one * one)) H := fun H => mul_b o0 (big (n := 2305843009213693951) o1 (by decide)) o0 (big (n := 2305843009213693951) o1 (by decide))
    generalize htwo : one * one % 2305843009213693907 = two
    have w0 : 0 ≤ two := by rw [← htwo]; exact Int.emod_nonneg _ (by decide)
    have w1 : two < 2305843009213693907 := by rw [← htwo]; exact Int.emod_lt_of_pos _ (by decide)
    have m3 : ∀ H, binD .mul (.int two) (.int one) H = .ok (.int (two * one)) H := fun H => mul_b w0 (big (n := 2305843009213693907) w1 (by decide)) o0 (big (n := 2305843009213693951) o1 (by decide))
    have m4 : ∀ H, binD .mul (.int 7919) (.int (c + 1)) H = .ok (.int (7919 * (c + 1))) H := fun H => mul_b (by decide) (by decide) (by omega) (big (n := 2 ^ 40) (by omega) (by decide))
    have f1 : ∀ (x : Int) H, binD .fdiv (.int x) (.int 4096) H = .ok (.int (x / 4096)) H := fun x H => fdiv_int (by decide)
    have p1 : ∀ (x : Int) H, binD .mod (.int x) (.int 2305843009213693951) H = .ok (.int (x % 2305843009213693951)) H := fun x H => mod_int (by decide)
    have p2 : ∀ (x : Int) H, binD .mod (.int x) (.int 2305843009213693907) H = .ok (.int (x % 2305843009213693907)) H := fun x H => mod_int (by decide)
    have p3 : ∀ (x : Int) H, binD .mod (.int x) (.int 2305843009213693921) H = .ok (.int (x % 2305843009213693921)) H := fun x H => mod_int (by decide)
    simp [b18, i0, i2, ha, btD, bt1, M.pure, s2, j1, j2, m1, p1, hone, m2, p2, htwo, m3, m4, p3, f1, mod_int t0]
    refine ⟨Int.emod_nonneg _ (by omega), Int.emod_lt_of_pos _ t0, ⟨⟨a, b, c + 1, e', a0, a1, b0, b1, by omega, by omega⟩⟩, Keep.set _⟩
theorem Bag.app {r k : Nat} {h : Hh} (B : Bag r k h) (g : Hh) : Bag r k (h ++ g) := by
  obtain ⟨a, b, c, e, z⟩ := B.ex
  exact ⟨a, b, c, by rw [List.getElem?_append_left (List.getElem?_eq_some_iff.mp e).1]; exact e, z⟩
theorem Bag.lt {r k : Nat} {h : Hh} (B : Bag r k h) : r < h.length := by
  obtain ⟨a, b, c, e, z⟩ := B.ex
  exact (List.getElem?_eq_some_iff.mp e).1
theorem Bag.mono {r k j : Nat} {h : Hh} (B : Bag r k h) (hk : k ≤ j) : Bag r j h := by
  obtain ⟨a, b, c, e, z1, z2, z3, z4, z5, z6⟩ := B.ex
  exact ⟨a, b, c, e, z1, z2, z3, z4, z5, by omega⟩
theorem atI_mem {xs : List D} {i : Int} (h0 : 0 ≤ i) (h1 : i < xs.length) : ∃ d, L2.atI xs i = some d ∧ d ∈ xs := by
  obtain ⟨m, rfl⟩ := Int.eq_ofNat_of_zero_le h0
  have hm : m < xs.length := by omega
  refine ⟨xs[m], ?_, List.getElem_mem hm⟩
  exact L2.atI_nat (j := m) (List.getElem?_eq_getElem hm)
theorem pick {n r q k : Nat} {xs : List D} {h : Hh} (B : Bag r k h) (hk : k < 10 ^ 9) (e : h[q]? = some (.lst xs)) (hq : q ≠ r) (x0 : 0 < xs.length) (x1 : xs.length < 10 ^ 9) :
    wp (cf pg (n + 1) 19 [.ref r, .ref q] h) (fun v h' => v ∈ xs ∧ Bag r (k + 1) h' ∧ Keep r h h' ∧ h'.length = h.length) (fun _ _ => False) := by
  rw [cf_eq (fd := d19) rfl rfl rfl]
  have l0 : btD .len [.ref q] h = .ok (.int xs.length) h := by simp [btD, bt1, lenD, e]
  simp [b19, wp_ret, wps_sb, wps_rs, wp_rb, l0]
  refine wp_mono (throw B hk (by omega) (by omega)) (fun v h' z => ?_) fun _ _ z => z
  obtain ⟨i, rfl, i0, i1, B', K', hl⟩ := z
  obtain ⟨d, e1, e2⟩ := atI_mem i0 i1
  rw [idx_lst (K'.at_ q _ hq e) e1]
  exact ⟨e2, B', K', hl⟩
theorem number {n r k : Nat} {h : Hh} (B : Bag r k h) (hk : k + 10 < 10 ^ 9) :
    wp (cf pg (n + 2) 26 [.ref r] h) (fun v h' => ∃ i : Int, v = .int i ∧ 0 ≤ i ∧ i < 10 ^ 41 ∧ Bag r (k + 3) h' ∧ Keep r h h') (fun _ _ => False) := by
  rw [cf_eq (fd := d26) rfl rfl rfl]
  have p1 : ∀ H, binD .pow (.int 10) (.int 20) H = .ok (.int (10 ^ 20)) H := fun H => pow_int (by decide)
  have p2 : ∀ H, binD .pow (.int 2) (.int 60) H = .ok (.int (2 ^ 60)) H := fun H => pow_int (by decide)
  have p3 : ∀ H, binD .pow (.int 10) (.int 39) H = .ok (.int (10 ^ 39)) H := fun H => pow_int (by decide)
  have m1 : ∀ H, binD .mul (.int (2 ^ 60)) (.int 3072) H = .ok (.int (2 ^ 60 * 3072)) H := fun H => mul_b (by decide) (by decide) (by decide) (by decide)
  simp only [b26, wp_ret, ss_cons, s_asg, e_lst, es_cons, es_nil, e_con, e_call, e_slot, e_bin, wps_sb, wps_rs, wp_rb, wp_ok, List.map, List.length, List.cons_append, List.getElem?_cons_zero, slotR_some, s_ret, ss_nil]
  refine wp_mono (throw B (by omega) (by decide) (by decide)) (fun v h1 z => ?_) fun _ _ z => z
  obtain ⟨i, rfl, i0, i1, B1, K1, hl1⟩ := z
  simp only [p1, wp_ok]
  refine wp_mono (throw B1 (by omega) (by decide) (by decide)) (fun v h2 z => ?_) fun _ _ z => z
  obtain ⟨j, rfl, j0, j1, B2, K2, hl2⟩ := z
  simp only [p2, p3, m1, add_int, wp_ok]
  rw [if_pos (by decide +kernel)]
  simp only [wp_ok, wps_nxt, List.replicate, List.set, List.nil_append, List.cons_append, List.getElem?_cons_zero, List.getElem?_cons_succ, slotR_some, wp_ok]
  refine wp_mono (pick (xs := [.int 0, .int 1, .int 2, .int 3, .int 4, .int 6, .int 12, .int 60, .int i, .int (10 ^ 20 + j), .int (2 ^ 60 * 3072), .int (10 ^ 39)]) (B2.app _) (by omega) get_last (by have := B2.lt; omega) (by show 0 < 12; decide) (by show 12 < 10 ^ 9; decide)) (fun v h3 z => ?_) fun _ _ z => z
  obtain ⟨hv, B3, K3, _⟩ := z
  simp only [wps_ret]
  have key : ∃ m : Int, v = .int m ∧ 0 ≤ m ∧ m < 10 ^ 41 := by
    simp only [List.mem_cons, List.not_mem_nil, or_false] at hv
    rcases hv with h | h | h | h | h | h | h | h | h | h | h | h
    all_goals exact ⟨_, h, by omega, by omega⟩
  obtain ⟨m, e1, e2, e3⟩ := key
  exact ⟨m, e1, e2, e3, B3, ((K1.trans K2).trans (Keep.app _)).trans K3⟩
/-- a fraction's lowest terms -/
theorem lowest {n : Nat} {a b : Int} {h : Hh} (ha : 0 ≤ a) (hb : 1 ≤ b) (sb : Sm b) : cf pg (n + 1) 27 [.int a, .int b] h = .ok (.tup [.int (a / Int.gcd a b), .int (b / Int.gcd a b)]) h := by
  rw [cf_eq (fd := d27) rfl rfl rfl]
  have g0 : 0 < Int.gcd a b := Int.gcd_pos_of_ne_zero_right a (by omega)
  have gb : Int.gcd a b ≤ b.natAbs := Int.gcd_le_natAbs_right a (by omega)
  have fd : ∀ (x : Int) H, binD .fdiv (.int x) (.int (Int.gcd a b)) H = .ok (.int (x / Int.gcd a b)) H := fun x H => by
    refine fdiv_int ⟨by omega, ?_⟩
    refine log_lt (n := 10 ^ 100) (by omega) ?_ (by decide) (by decide)
    have : Int.gcd a b < 10 ^ 100 := Nat.lt_of_le_of_lt gb sb
    exact_mod_cast this
  have sz : (2 : Nat) ≤ sizeLine := by decide
  simp [b27, div_call ha (by omega) sb, fd, sz]
/-- what is drawn: a fraction in its lowest terms -/
structure Drawn (a b : Int) : Prop where
  a0 : 0 ≤ a
  b0 : 1 ≤ b
  g : Int.gcd a b = 1
  a1 : a < 10 ^ 42
  b1 : b < 10 ^ 42
theorem low_drawn {a b : Int} (ha : 0 ≤ a) (hb : 1 ≤ b) (a1 : a < 10 ^ 42) (b1 : b < 10 ^ 42) : Drawn (a / Int.gcd a b) (b / Int.gcd a b) := by
  obtain ⟨m, rfl⟩ := Int.eq_ofNat_of_zero_le ha
  obtain ⟨k, rfl⟩ := Int.eq_ofNat_of_zero_le (show (0 : Int) ≤ b by omega)
  have hk : 0 < k := by omega
  have e : Int.gcd (m : Int) (k : Int) = Nat.gcd m k := rfl
  have g0 : 0 < Nat.gcd m k := Nat.gcd_pos_of_pos_right m hk
  have em : ((m : Int) / (Nat.gcd m k : Nat)) = ((m / Nat.gcd m k : Nat) : Int) := rfl
  have ek : ((k : Int) / (Nat.gcd m k : Nat)) = ((k / Nat.gcd m k : Nat) : Int) := rfl
  rw [e, em, ek]
  have k1 : 0 < k / Nat.gcd m k := Nat.div_pos (Nat.le_of_dvd hk (Nat.gcd_dvd_right m k)) g0
  have l1 : m / Nat.gcd m k ≤ m := Nat.div_le_self _ _
  have l2 : k / Nat.gcd m k ≤ k := Nat.div_le_self _ _
  exact ⟨Int.natCast_nonneg _, by exact_mod_cast k1, Nat.gcd_div_gcd_div_gcd_of_pos_right hk, Int.lt_of_le_of_lt (by exact_mod_cast l1) a1, Int.lt_of_le_of_lt (by exact_mod_cast l2) b1⟩
theorem sm_of {i : Int} (h0 : 0 ≤ i) (h1 : i < 10 ^ 90) : Sm i := by
  unfold Sm
  have : (10 : Nat) ^ 90 < 10 ^ 100 := by decide
  omega
theorem drawn_fraction {n r k : Nat} {h : Hh} (B : Bag r k h) (hk : k + 20 < 10 ^ 9) :
    wp (cf pg (n + 3) 28 [.ref r] h) (fun v h' => ∃ a b : Int, v = .tup [.int a, .int b] ∧ Drawn a b ∧ Bag r (k + 6) h' ∧ Keep r h h') (fun _ _ => False) := by
  rw [cf_eq (fd := d28) rfl rfl rfl]
  simp only [b28, wp_ret, ss_cons, s_ret, es_cons, es_nil, e_con, e_call, e_slot, e_bin, wps_sb, wps_rs, wp_rb, wp_ok, List.map, List.length, List.replicate, List.append_nil, List.cons_append, List.getElem?_cons_zero, slotR_some]
  refine wp_mono (number B (by omega)) (fun v h1 z => ?_) fun _ _ z => z
  obtain ⟨i, rfl, i0, i1, B1, K1⟩ := z
  refine wp_mono (number B1 (by omega)) (fun v h2 z => ?_) fun _ _ z => z
  obtain ⟨j, rfl, j0, j1, B2, K2⟩ := z
  have p : (10 : Int) ^ 41 + 1 < 10 ^ 42 := by decide
  simp only [add_int, wp_ok]
  rw [lowest i0 (by omega) (sm_of (by omega) (by omega))]
  simp only [wp_ok, wps_ret]
  exact ⟨_, _, rfl, low_drawn i0 (by omega) (by omega) (by omega), B2, K1.trans K2⟩
end K01
namespace K01
open PySem L2 MX
/-! ### the library's fractions -/
abbrev fr (p : Int × Int) : D := .tup [.int p.1, .int p.2]
theorem eq_fr {a b c d : Int} {h : Hh} : cmpD .eq (.tup [.int a, .int b]) (.tup [.int c, .int d]) h = .ok (.bl (decide (a = c) && decide (b = d))) h := by
  simp [cmpD, eqD, toP, deep, optMap, PyData.canLay0, PyData.canLayAll0, PyData.eqv, PyData.eqvAll]
  rfl
theorem ne_fr {a b c d : Int} {h : Hh} : cmpD .ne (.tup [.int a, .int b]) (.tup [.int c, .int d]) h = .ok (.bl (!(decide (a = c) && decide (b = d)))) h := by
  simp [cmpD, eqD, toP, deep, optMap, PyData.canLay0, PyData.canLayAll0, PyData.eqv, PyData.eqvAll]
  rfl
theorem require_fraction {n : Nat} {h : Hh} {d : D} (w : Ask h d) : cf pg (n + 3) 5 [d] h = if isFr d = true then .ok .non h else .exc ⟨0, []⟩ h := by
  rw [cf_eq (fd := d5) rfl rfl rfl]
  cases e : isFr d <;> simp [b5, is_fraction w, e]
theorem reduced {n : Nat} {a b : Int} {h : Hh} (ha : 0 ≤ a) (hb : 1 ≤ b) (sb : Sm b) : cf pg (n + 1) 6 [.int a, .int b] h = .ok (.tup [.int (a / Int.gcd a b), .int (b / Int.gcd a b)]) h := by
  rw [cf_eq (fd := d6) rfl rfl rfl]
  have g0 : 0 < Int.gcd a b := Int.gcd_pos_of_ne_zero_right a (by omega)
  have gb : Int.gcd a b ≤ b.natAbs := Int.gcd_le_natAbs_right a (by omega)
  have fd : ∀ (x : Int) H, binD .fdiv (.int x) (.int (Int.gcd a b)) H = .ok (.int (x / Int.gcd a b)) H := fun x H => by
    refine fdiv_int ⟨by omega, ?_⟩
    refine log_lt (n := 10 ^ 100) (by omega) ?_ (by decide) (by decide)
    have : Int.gcd a b < 10 ^ 100 := Nat.lt_of_le_of_lt gb sb
    exact_mod_cast this
  have sz : (2 : Nat) ≤ sizeLine := by decide
  simp [b6, gcd_call ha (by omega) sb, fd, sz]
theorem less_than {n : Nat} {a b c d : Int} {h : Hh} (a0 : 0 ≤ a) (a1 : a < 10 ^ 90) (b0 : 0 ≤ b) (b1 : b < 10 ^ 90) (c0 : 0 ≤ c) (c1 : c < 10 ^ 90) (d0 : 0 ≤ d) (d1 : d < 10 ^ 90) :
    cf pg n 7 [.tup [.int a, .int b], .tup [.int c, .int d]] h = .ok (.bl (decide (a * d < c * b))) h := by
  rw [cf_eq (fd := d7) rfl rfl rfl]
  have q : (10 : Nat) ^ 90 ≤ 2 ^ 1000 := by decide
  have m1 : ∀ H, binD .mul (.int a) (.int d) H = .ok (.int (a * d)) H := fun H => mul_b a0 (big (n := 10 ^ 90) (by exact_mod_cast a1) q) d0 (big (n := 10 ^ 90) (by exact_mod_cast d1) q)
  have m2 : ∀ H, binD .mul (.int c) (.int b) H = .ok (.int (c * b)) H := fun H => mul_b c0 (big (n := 10 ^ 90) (by exact_mod_cast c1) q) b0 (big (n := 10 ^ 90) (by exact_mod_cast b1) q)
  simp [b7, m1, m2]
theorem product_in {n : Nat} {a b c d : Int} {h : Hh} (x : Drawn a b) (y : Drawn c d) : cf pg (n + 2) 8 [.tup [.int a, .int b], .tup [.int c, .int d]] h = .ok (.tup [.int (a * c / Int.gcd (a * c) (b * d)), .int (b * d / Int.gcd (a * c) (b * d))]) h := by
  rw [cf_eq (fd := d8) rfl rfl rfl]
  have q : (10 : Nat) ^ 42 ≤ 2 ^ 1000 := by decide
  have m1 : ∀ H, binD .mul (.int a) (.int c) H = .ok (.int (a * c)) H := fun H => mul_b x.a0 (big (n := 10 ^ 42) (by exact_mod_cast x.a1) q) y.a0 (big (n := 10 ^ 42) (by exact_mod_cast y.a1) q)
  have m2 : ∀ H, binD .mul (.int b) (.int d) H = .ok (.int (b * d)) H := fun H => mul_b (by have := x.b0; omega) (big (n := 10 ^ 42) (by exact_mod_cast x.b1) q) (by have := y.b0; omega) (big (n := 10 ^ 42) (by exact_mod_cast y.b1) q)
  have p0 : 0 ≤ a * c := Int.mul_nonneg x.a0 y.a0
  have p1 : 1 ≤ b * d := by
    have := Int.mul_pos (show 0 < b by have := x.b0; omega) (show 0 < d by have := y.b0; omega)
    omega
  have p2 : b * d < 10 ^ 90 := by
    have h1 : b * d ≤ 10 ^ 42 * 10 ^ 42 := Int.mul_le_mul (Int.le_of_lt x.b1) (Int.le_of_lt y.b1) (by have := y.b0; omega) (by decide)
    have h2 : (10 : Int) ^ 42 * 10 ^ 42 < 10 ^ 90 := by decide
    omega
  simp [b8, m1, m2, reduced p0 p1 (sm_of (by omega) p2)]
theorem drawn_fr {a b : Int} (x : Drawn a b) : isFr (.tup [.int a, .int b]) = true := by
  simp [isFr, x.a0, x.b0, x.g]
theorem ask_fr {a b : Int} {h : Hh} (a0 : a.natAbs < 10 ^ 100) (b0 : b.natAbs < 10 ^ 100) : Ask h (.tup [.int a, .int b]) := by
  refine ⟨trivial, fun xs e x hx => ?_⟩
  cases e
  simp only [List.mem_cons, List.not_mem_nil, or_false] at hx
  rcases hx with rfl | rfl
  · exact ⟨trivial, fun i e => by cases e; exact a0⟩
  · exact ⟨trivial, fun i e => by cases e; exact b0⟩
theorem Drawn.ask {a b : Int} {h : Hh} (x : Drawn a b) : Ask h (.tup [.int a, .int b]) := by
  have p : (10 : Int) ^ 42 < 10 ^ 90 := by decide
  have := x.b0
  exact ask_fr (sm_of x.a0 (by have := x.a1; omega)) (sm_of (by omega) (by have := x.b1; omega))
theorem fraction_product {n : Nat} {a b c d : Int} {h : Hh} (x : Drawn a b) (y : Drawn c d) : cf pg (n + 4) 10 [.tup [.int a, .int b], .tup [.int c, .int d]] h = .ok (.tup [.int (a * c / Int.gcd (a * c) (b * d)), .int (b * d / Int.gcd (a * c) (b * d))]) h := by
  rw [cf_eq (fd := d10) rfl rfl rfl]
  simp [b10, require_fraction x.ask, require_fraction y.ask, drawn_fr x, drawn_fr y, product_in x y]
theorem compared {n : Nat} {a b c d : Int} {h : Hh} (x : Drawn a b) (y : Drawn c d) : cf pg (n + 4) 11 [.tup [.int a, .int b], .tup [.int c, .int d]] h =
    .ok (.str (Str.ofString (if a = c ∧ b = d then "equal" else if a * d < c * b then "less" else "greater"))) h := by
  rw [cf_eq (fd := d11) rfl rfl rfl]
  have p : (10 : Int) ^ 42 < 10 ^ 90 := by decide
  have x0 := x.a0; have x1 := x.a1; have x2 := x.b0; have x3 := x.b1
  have y0 := y.a0; have y1 := y.a1; have y2 := y.b0; have y3 := y.b1
  have lt := less_than (n := n + 3) (h := h) (a := a) (b := b) (c := c) (d := d) x0 (by omega) (by omega) (by omega) y0 (by omega) (by omega) (by omega)
  simp [b11, require_fraction x.ask, require_fraction y.ask, drawn_fr x, drawn_fr y, eq_fr, lt]
  by_cases e : a = c ∧ b = d
  · simp [e.1, e.2]
  · have e' : ¬ ((decide (a = c) && decide (b = d)) = true) := by simpa using e
    by_cases l : a * d < c * b <;> simp [e, l]
/-- make_fraction of any two -/
def from0 (lo : Int) : D → Bool
  | .int i => decide (lo ≤ i)
  | _ => false
theorem is_between' {n : Nat} {h : Hh} {d : D} {lo : Int} (w : Wd h d) : cf pg (n + 1) 1 [d, .int lo, .non] h = .ok (.bl (from0 lo d)) h := by
  rw [is_between w]
  cases d <;> rfl
theorem make_bad1 {n : Nat} {h : Hh} {d e : D} (w : Wd h d) (b : from0 0 d = false) : cf pg (n + 2) 9 [d, e] h = .exc ⟨1, [(0, d)]⟩ h := by
  rw [cf_eq (fd := d9) rfl rfl rfl]
  simp [b9, is_between' w, b]
theorem make_bad2 {n : Nat} {h : Hh} {d e : D} (w : Wd h d) (w' : Wd h e) (a : from0 0 d = true) (b : from0 1 e = false) : cf pg (n + 2) 9 [d, e] h = .exc ⟨1, [(0, e)]⟩ h := by
  rw [cf_eq (fd := d9) rfl rfl rfl]
  simp [b9, is_between' w, is_between' w', a, b]
theorem make_ok {n : Nat} {h : Hh} {a b : Int} (ha : 0 ≤ a) (hb : 1 ≤ b) (sb : Sm b) : cf pg (n + 2) 9 [.int a, .int b] h = .ok (.tup [.int (a / Int.gcd a b), .int (b / Int.gcd a b)]) h := by
  rw [cf_eq (fd := d9) rfl rfl rfl]
  simp [b9, is_between' (h := h) (d := .int a) trivial, is_between' (h := h) (d := .int b) trivial, from0, ha, hb, reduced ha hb sb]
/-! ### tuples of fractions -/
/-- may be asked of, and so may its items -/
def Asks (h : Hh) (d : D) : Prop := Wd h d ∧ ∀ xs, d = .tup xs → xs.length ≤ 1000 ∧ ∀ x ∈ xs, ∀ acc, Ask (h ++ acc) x
def isFrs : D → Bool
  | .tup xs => xs.all isFr
  | _ => false
theorem bools_map (f : D → Bool) : ∀ xs : List D, bools (xs.map fun x => D.bl (f x)) = some (xs.map f)
  | [] => rfl
  | x :: r => by
    simp only [List.map_cons, bools, bools_map f r, Option.map_some]
theorem all_map (f : D → Bool) (xs : List D) : (xs.map f).all id = xs.all f := by
  rw [List.all_map]
  rfl
theorem require_fractions {n : Nat} {h : Hh} {d : D} (w : Asks h d) : ∃ g, cf pg (n + 3) 12 [d] h = if isFrs d = true then .ok .non (h ++ g) else .exc ⟨0, []⟩ (h ++ g) := by
  rw [cf_eq (fd := d12) rfl rfl rfl]
  obtain ⟨w1, w2⟩ := w
  cases d with
  | tup xs =>
    obtain ⟨hl, ha⟩ := w2 xs rfl
    have hz : xs.length ≤ sizeLine := Nat.le_trans hl (by decide)
    have cp := comp_pure (ev := E0 pg (n + 3)) (elt := .call 4 (.cons (.slot 1) .nil)) (own := [1]) (tg := .name 1) (cond := .nil) (env := [some (.tup xs), none]) (wk := .tup xs) (xs := xs) (h := h) (fun x => some (.bl (isFr x))) rfl hz (fun x hx acc => by
      rw [turn_eq (env' := [some (.tup xs), some x]) rfl]
      simp [is_fraction (ha x hx [.lst acc])])
    refine ⟨[.lst (xs.map fun x => .bl (isFr x))], ?_⟩
    have fm : xs.filterMap (fun x => some (D.bl (isFr x))) = xs.map fun x => .bl (isFr x) := by
      rw [List.filterMap_eq_map']
    rw [fm] at cp
    have al : btD .all [.ref h.length] (h ++ [.lst (xs.map fun x => .bl (isFr x))]) = .ok (.bl (xs.all isFr)) (h ++ [.lst (xs.map fun x => .bl (isFr x))]) := by
      simp only [btD, bt1, get_last, bools_map, all_map]
    have cp' : loopC (turnM ⟨pg, tabs pg (n + 3), none, none⟩ (.call 4 (.cons (.slot 1) .nil)) [1] (.name 1) .nil [some (.tup xs), none]) h.length (Wk.tup xs).len (.tup xs) (h ++ [.lst []]) = _ := cp
    rw [show isFrs (.tup xs) = xs.all isFr from rfl]
    generalize xs.all isFr = b at al ⊢
    cases b <;> simp [b12, e_comp, wkOf, cp', al]
  | ref r =>
    refine ⟨[], ?_⟩
    rcases w1 with ⟨xs, e⟩ | ⟨kvs, e⟩ <;> simp [b12, isFrs, isTy_lst, isTy_dct, e]
  | scr ns => exact w1.elim
  | _ => exact ⟨[], by simp [b12, isFrs]⟩
/-- less, as cross products tell -/
def lt2 (p q : Int × Int) : Bool := decide (p.1 * q.2 < q.1 * p.2)
def keep1 (lt : Int × Int → Int × Int → Bool) (o : Option (Int × Int)) (p : Int × Int) : Option (Int × Int) := match o with
  | none => some p
  | some q => if lt p q = true then some p else some q
def opt (o : Option (Int × Int)) : D := match o with
  | none => .non
  | some p => fr p
/-- small enough to be multiplied -/
def Sp (p : Int × Int) : Prop := 0 ≤ p.1 ∧ p.1 < 10 ^ 90 ∧ 0 ≤ p.2 ∧ p.2 < 10 ^ 90
theorem lt_call {n : Nat} {p q : Int × Int} {h : Hh} (a : Sp p) (b : Sp q) : cf pg n 7 [fr p, fr q] h = .ok (.bl (lt2 p q)) h := less_than a.1 a.2.1 a.2.2.1 a.2.2.2 b.1 b.2.1 b.2.2.1 b.2.2.2
theorem least_in {n : Nat} {ps : List (Int × Int)} {h : Hh} (sp : ∀ p ∈ ps, Sp p) : cf pg (n + 1) 13 [.tup (ps.map fr)] h = .ok (opt (ps.foldl (keep1 lt2) none)) h := by
  rw [cf_eq (fd := d13) rfl rfl rfl]
  refine of_wp ?_
  simp only [b13, wp_ret, ss_cons, s_asg, e_con, rs_ok, sb_nxt, wps_sb, s_for, i_seq, e_slot, List.map, List.length, List.replicate, List.append_nil, List.cons_append, List.nil_append, List.set, List.getElem?_cons_zero, slotR_some, rb_ok, wkOf]
  simp only [Wk.len]
  rw [show (ps.map fr).length = (ps.map fr).length from rfl]
  refine for_tup (fun ys env h' => ∃ (qs : List (Int × Int)) (o : Option (Int × Int)) (z : Option D), ys = qs.map fr ∧ (∀ p ∈ qs, Sp p) ∧ (∀ p, o = some p → Sp p) ∧ env = [some (.tup (ps.map fr)), some (opt o), z] ∧ qs.foldl (keep1 lt2) o = ps.foldl (keep1 lt2) none ∧ h' = h) ?_ ?_ ⟨ps, none, none, rfl, sp, fun p e => (by cases e), rfl, rfl, rfl⟩
  · rintro d r env h' ⟨qs, o, z, e, s1, s2, rfl, e2, rfl⟩
    cases qs with
    | nil => cases e
    | cons q qs =>
      simp only [List.map_cons, List.cons.injEq] at e
      obtain ⟨rfl, rfl⟩ := e
      simp only [asgT, List.set]
      cases o with
      | none =>
        simp [opt]
        exact ⟨qs, rfl, fun a b hp => s1 (a, b) (List.mem_cons_of_mem _ hp), some q, fun a b e => by cases e; exact s1 _ List.mem_cons_self, rfl, e2⟩
      | some p =>
        have lc := lt_call (n := n) (h := h') (s1 q List.mem_cons_self) (s2 p rfl)
        have s3 : ∀ p ∈ qs, Sp p := fun p hp => s1 p (List.mem_cons_of_mem _ hp)
        cases hb : lt2 q p with
        | true =>
          rw [hb] at lc
          simp [opt, lc]
          exact ⟨qs, rfl, fun a b hp => s3 (a, b) hp, some q, fun a b e => by cases e; exact s1 _ List.mem_cons_self, rfl, by rw [← e2]; simp [keep1, hb]⟩
        | false =>
          rw [hb] at lc
          simp [opt, lc]
          exact ⟨qs, rfl, fun a b hp => s3 (a, b) hp, some p, fun a b e => by cases e; exact s2 _ rfl, rfl, by rw [← e2]; simp [keep1, hb]⟩
  · rintro env h' ⟨qs, o, z, e, s1, s2, rfl, e2, rfl⟩
    cases qs with
    | nil =>
      simp only [List.foldl_nil] at e2
      simp [e2]
    | cons q qs => cases e
def gt2 (p q : Int × Int) : Bool := lt2 q p
theorem greatest_in {n : Nat} {ps : List (Int × Int)} {h : Hh} (sp : ∀ p ∈ ps, Sp p) : cf pg (n + 1) 14 [.tup (ps.map fr)] h = .ok (opt (ps.foldl (keep1 gt2) none)) h := by
  rw [cf_eq (fd := d14) rfl rfl rfl]
  refine of_wp ?_
  simp only [b14, wp_ret, ss_cons, s_asg, e_con, rs_ok, sb_nxt, wps_sb, s_for, i_seq, e_slot, List.map, List.length, List.replicate, List.append_nil, List.cons_append, List.nil_append, List.set, List.getElem?_cons_zero, slotR_some, rb_ok, wkOf]
  simp only [Wk.len]
  rw [show (ps.map fr).length = (ps.map fr).length from rfl]
  refine for_tup (fun ys env h' => ∃ (qs : List (Int × Int)) (o : Option (Int × Int)) (z : Option D), ys = qs.map fr ∧ (∀ p ∈ qs, Sp p) ∧ (∀ p, o = some p → Sp p) ∧ env = [some (.tup (ps.map fr)), some (opt o), z] ∧ qs.foldl (keep1 gt2) o = ps.foldl (keep1 gt2) none ∧ h' = h) ?_ ?_ ⟨ps, none, none, rfl, sp, fun p e => (by cases e), rfl, rfl, rfl⟩
  · rintro d r env h' ⟨qs, o, z, e, s1, s2, rfl, e2, rfl⟩
    cases qs with
    | nil => cases e
    | cons q qs =>
      simp only [List.map_cons, List.cons.injEq] at e
      obtain ⟨rfl, rfl⟩ := e
      simp only [asgT, List.set]
      cases o with
      | none =>
        simp [opt]
        exact ⟨qs, rfl, fun a b hp => s1 (a, b) (List.mem_cons_of_mem _ hp), some q, fun a b e => by cases e; exact s1 _ List.mem_cons_self, rfl, e2⟩
      | some p =>
        have lc := lt_call (n := n) (h := h') (s2 p rfl) (s1 q List.mem_cons_self)
        have s3 : ∀ p ∈ qs, Sp p := fun p hp => s1 p (List.mem_cons_of_mem _ hp)
        cases hb : lt2 p q with
        | true =>
          rw [hb] at lc
          simp [opt, lc]
          exact ⟨qs, rfl, fun a b hp => s3 (a, b) hp, some q, fun a b e => by cases e; exact s1 _ List.mem_cons_self, rfl, by rw [← e2]; simp [keep1, gt2, hb]⟩
        | false =>
          rw [hb] at lc
          simp [opt, lc]
          exact ⟨qs, rfl, fun a b hp => s3 (a, b) hp, some p, fun a b e => by cases e; exact s2 _ rfl, rfl, by rw [← e2]; simp [keep1, gt2, hb]⟩
  · rintro env h' ⟨qs, o, z, e, s1, s2, rfl, e2, rfl⟩
    cases qs with
    | nil =>
      simp only [List.foldl_nil] at e2
      simp [e2]
    | cons q qs => cases e
/-- least_fraction of anything that may be asked of -/
theorem least_fraction {n : Nat} {h : Hh} {ps : List (Int × Int)} (w : ps.length ≤ 1000) (sp : ∀ p ∈ ps, Sp p) (f : ∀ p ∈ ps, isFr (fr p) = true) : ∃ g, cf pg (n + 4) 15 [.tup (ps.map fr)] h = .ok (opt (ps.foldl (keep1 lt2) none)) (h ++ g) := by
  have A : Asks h (.tup (ps.map fr)) := ⟨trivial, fun xs e => by
    cases e
    refine ⟨by simpa using w, fun x hx acc => ?_⟩
    obtain ⟨p, hp, rfl⟩ := List.mem_map.mp hx
    obtain ⟨a0, a1, b0, b1⟩ := sp p hp
    exact ask_fr (sm_of a0 a1) (sm_of b0 b1)⟩
  obtain ⟨g, hg⟩ := require_fractions (n := n) A
  have hf : isFrs (.tup (ps.map fr)) = true := by
    simp only [isFrs, List.all_eq_true, List.mem_map]
    rintro x ⟨p, hp, rfl⟩
    exact f p hp
  rw [if_pos hf] at hg
  refine ⟨g, ?_⟩
  rw [cf_eq (fd := d15) rfl rfl rfl]
  simp [b15, hg, least_in sp]
theorem greatest_fraction {n : Nat} {h : Hh} {ps : List (Int × Int)} (w : ps.length ≤ 1000) (sp : ∀ p ∈ ps, Sp p) (f : ∀ p ∈ ps, isFr (fr p) = true) : ∃ g, cf pg (n + 4) 16 [.tup (ps.map fr)] h = .ok (opt (ps.foldl (keep1 gt2) none)) (h ++ g) := by
  have A : Asks h (.tup (ps.map fr)) := ⟨trivial, fun xs e => by
    cases e
    refine ⟨by simpa using w, fun x hx acc => ?_⟩
    obtain ⟨p, hp, rfl⟩ := List.mem_map.mp hx
    obtain ⟨a0, a1, b0, b1⟩ := sp p hp
    exact ask_fr (sm_of a0 a1) (sm_of b0 b1)⟩
  obtain ⟨g, hg⟩ := require_fractions (n := n) A
  have hf : isFrs (.tup (ps.map fr)) = true := by
    simp only [isFrs, List.all_eq_true, List.mem_map]
    rintro x ⟨p, hp, rfl⟩
    exact f p hp
  rw [if_pos hf] at hg
  refine ⟨g, ?_⟩
  rw [cf_eq (fd := d16) rfl rfl rfl]
  simp [b16, hg, greatest_in sp]
/-- of anything else they raise -/
theorem least_bad {n : Nat} {h : Hh} {d : D} (A : Asks h d) (b : isFrs d = false) : ∃ g, cf pg (n + 4) 15 [d] h = .exc ⟨0, []⟩ (h ++ g) := by
  obtain ⟨g, hg⟩ := require_fractions (n := n) A
  refine ⟨g, ?_⟩
  rw [b] at hg
  simp only [Bool.false_eq_true, if_false] at hg
  rw [cf_eq (fd := d15) rfl rfl rfl]
  simp [b15, hg]
theorem greatest_bad {n : Nat} {h : Hh} {d : D} (A : Asks h d) (b : isFrs d = false) : ∃ g, cf pg (n + 4) 16 [d] h = .exc ⟨0, []⟩ (h ++ g) := by
  obtain ⟨g, hg⟩ := require_fractions (n := n) A
  refine ⟨g, ?_⟩
  rw [b] at hg
  simp only [Bool.false_eq_true, if_false] at hg
  rw [cf_eq (fd := d16) rfl rfl rfl]
  simp [b16, hg]
theorem product_bad {n : Nat} {h : Hh} {d e : D} (A : Ask h d) (B : Ask h e) (b : isFr d = false ∨ isFr e = false) : cf pg (n + 4) 10 [d, e] h = .exc ⟨0, []⟩ h := by
  rw [cf_eq (fd := d10) rfl rfl rfl]
  cases hd : isFr d with
  | false => simp [b10, require_fraction A, hd]
  | true =>
    rcases b with b | b
    · rw [hd] at b
      cases b
    · simp [b10, require_fraction A, require_fraction B, hd, b]
theorem compared_bad {n : Nat} {h : Hh} {d e : D} (A : Ask h d) (B : Ask h e) (b : isFr d = false ∨ isFr e = false) : cf pg (n + 4) 11 [d, e] h = .exc ⟨0, []⟩ h := by
  rw [cf_eq (fd := d11) rfl rfl rfl]
  cases hd : isFr d with
  | false => simp [b11, require_fraction A, hd]
  | true =>
    rcases b with b | b
    · rw [hd] at b
      cases b
    · simp [b11, require_fraction A, require_fraction B, hd, b]
end K01
namespace K01
open PySem L2 MX
/-! ### names -/
def letters : Str := Str.ofString "abcdefghijklmnopqrstuvwxyz"
def inL (c : Nat) : Bool := decide (c ∈ letters.cps.toList)
def allL (x : Str) : Bool := x.cps.toList.all inL
def isNm : D → Bool
  | .str x => decide (1 ≤ x.length) && (decide (x.length ≤ 8) && allL x)
  | _ => false
def Nm (h : Hh) (d : D) : Prop := Wd h d ∧ ∀ x, d = .str x → x.length ≤ 1000 ∧ tx x = true
theorem in_sign {c : Nat} {h : Hh} : cmpD .isin (sign1 c) (.str letters) h = .ok (.bl (inL c)) h := rfl
theorem notin_sign {c : Nat} {h : Hh} : cmpD .notin (sign1 c) (.str letters) h = .ok (.bl (!inL c)) h := rfl
def at1 (g : Nat → Option D) : D → Option D
  | .str ⟨⟨[c]⟩⟩ => g c
  | _ => none
theorem at1_sign {g : Nat → Option D} {c : Nat} : at1 g (sign1 c) = g c := rfl
theorem bools_on {α : Type} (f : α → Bool) : ∀ xs : List α, bools (xs.map fun x => D.bl (f x)) = some (xs.map f)
  | [] => rfl
  | x :: r => by
    simp only [List.map_cons, bools, bools_on f r, Option.map_some]
theorem all_on {α : Type} (f : α → Bool) (xs : List α) : (xs.map f).all id = xs.all f := by
  rw [List.all_map]
  rfl
theorem is_name {n : Nat} {h : Hh} {d : D} (w : Nm h d) : ∃ g, cf pg n 2 [d] h = .ok (.bl (isNm d)) (h ++ g) := by
  rw [cf_eq (fd := d2) rfl rfl rfl]
  obtain ⟨w1, w2⟩ := w
  cases d with
  | str x =>
    obtain ⟨hl, ht⟩ := w2 x rfl
    have hz : x.length ≤ sizeLine := Nat.le_trans hl (by decide)
    have ln : btD .len [.str x] h = .ok (.int x.length) h := by simp only [btD, bt1, lenD, if_pos hz]
    have cl : (x.cps.toList.map sign1).length = x.length := by
      rw [List.length_map]
      rfl
    have cp := comp_pure (ev := E0 pg n) (elt := .cmp .isin (.slot 1) (.con (.str letters))) (own := [1]) (tg := .name 1) (cond := .nil) (env := [some (.str x), none]) (wk := .str x.cps.toList) (xs := x.cps.toList.map sign1) (h := h) (at1 fun c => some (.bl (inL c))) rfl (by rw [cl]; exact hz) (fun y hy acc => by
      obtain ⟨c, _, rfl⟩ := List.mem_map.mp hy
      rw [turn_eq (env' := [some (.str x), some (sign1 c)]) rfl]
      simp only [cond_nil, e_cmp, e_slot, e_con, List.getElem?_cons_succ, List.getElem?_cons_zero, slotR_some, rb_ok, in_sign, at1_sign]
      rfl)
    have fm : (x.cps.toList.map sign1).filterMap (at1 fun c => some (.bl (inL c))) = x.cps.toList.map fun c => D.bl (inL c) := by
      rw [List.filterMap_map]
      exact List.filterMap_eq_map' ▸ rfl
    rw [fm] at cp
    have cp' : loopC (turnM ⟨pg, tabs pg n, none, none⟩ (.cmp .isin (.slot 1) (.con (.str (Str.ofString "abcdefghijklmnopqrstuvwxyz")))) [1] (.name 1) .nil [some (.str x), none]) h.length (Wk.str x.cps.toList).len (.str x.cps.toList) (h ++ [.lst []]) = _ := cp
    have al : btD .all [.ref h.length] (h ++ [.lst (x.cps.toList.map fun c => D.bl (inL c))]) = .ok (.bl (allL x)) (h ++ [.lst (x.cps.toList.map fun c => D.bl (inL c))]) := by
      simp only [btD, bt1, get_last, bools_on, all_on]
      rfl
    unfold isNm
    by_cases h1 : 1 ≤ x.length
    · have i1 : (1 : Int) ≤ (x.length : Int) := by exact_mod_cast h1
      by_cases h2 : x.length ≤ 8
      · have i2 : (x.length : Int) ≤ 8 := by exact_mod_cast h2
        refine ⟨[.lst (x.cps.toList.map fun c => D.bl (inL c))], ?_⟩
        have ai : isNm (.str x) = allL x := by simp [isNm, h1, h2]
        simp [b2, ln, h1, h2, i1, i2, e_comp, wkOf, hz, cp', al]
      · have i2 : ¬ (x.length : Int) ≤ 8 := by omega
        refine ⟨[], ?_⟩
        simp [b2, ln, h1, h2, i1, i2]
    · have i1 : ¬ (1 : Int) ≤ (x.length : Int) := by omega
      refine ⟨[], ?_⟩
      simp [b2, ln, h1, i1]
  | ref r =>
    refine ⟨[], ?_⟩
    rcases w1 with ⟨xs, e⟩ | ⟨kvs, e⟩ <;> simp [b2, isNm, isTy_lst, isTy_dct, e]
  | scr ns => exact w1.elim
  | _ => exact ⟨[], by simp [b2, isNm]⟩
/-- one sign each -/
def ones (cs : List Nat) : List D := cs.map sign1
theorem toP_ones {h : Hh} {k : Nat} : ∀ cs : List Nat, optMap (toP h (k + 1)) (ones cs) = some (cs.map fun c => PyData.str ⟨#[c]⟩)
  | [] => rfl
  | c :: r => by
    have := toP_ones (h := h) (k := k) r
    unfold ones at this
    simp only [ones, List.map_cons, optMap, sign1, toP, this]
theorem lay_ones : ∀ cs : List Nat, (∀ c ∈ cs, c < 0x110000) → PyData.canLayAll0 (cs.map fun c => PyData.str ⟨#[c]⟩) = true
  | [], _ => rfl
  | c :: r, h => by
    have h1 := h c List.mem_cons_self
    simp only [List.map_cons, PyData.canLayAll0, lay_ones r fun d hd => h d (List.mem_cons_of_mem _ hd), Bool.and_true]
    exact (tx_iff (x := ⟨#[c]⟩)).mpr fun d hd => by
      simp at hd
      omega
theorem law_is_name {n : Nat} {h : Hh} {d : D} (w : Nm h d) : ∃ g, cf pg n 24 [d] h = .ok (.bl (isNm d)) (h ++ g) := by
  rw [cf_eq (fd := d24) rfl rfl rfl]
  obtain ⟨w1, w2⟩ := w
  cases d with
  | str x =>
    obtain ⟨hl, ht⟩ := w2 x rfl
    have hz : x.length ≤ sizeLine := Nat.le_trans hl (by decide)
    have ln : btD .len [.str x] h = .ok (.int x.length) h := by simp only [btD, bt1, lenD, if_pos hz]
    have cl : (x.cps.toList.map sign1).length = x.length := by
      rw [List.length_map]
      rfl
    have cp := comp_pure (ev := E0 pg n) (elt := .slot 1) (own := [1]) (tg := .name 1) (cond := .cons (.cmp .notin (.slot 1) (.con (.str letters))) .nil) (env := [some (.str x), none]) (wk := .str x.cps.toList) (xs := x.cps.toList.map sign1) (h := h) (at1 fun c => if inL c = true then none else some (sign1 c)) rfl (by rw [cl]; exact hz) (fun y hy acc => by
      obtain ⟨c, _, rfl⟩ := List.mem_map.mp hy
      rw [turn_eq (env' := [some (.str x), some (sign1 c)]) rfl]
      simp only [cond_one, e_cmp, e_slot, e_con, List.getElem?_cons_succ, List.getElem?_cons_zero, slotR_some, rb_ok, notin_sign, tru_bl, at1_sign]
      cases inL c <;> rfl)
    have fm : (x.cps.toList.map sign1).filterMap (at1 fun c => if inL c = true then none else some (sign1 c)) = ones (x.cps.toList.filter fun c => !inL c) := by
      rw [List.filterMap_map, ones, ← List.filterMap_eq_map, ← List.filterMap_eq_filter, List.filterMap_filterMap]
      congr 1
      funext c
      simp only [Function.comp, Option.guard, at1_sign]
      by_cases hb : inL c = true <;> simp [hb]
    rw [fm] at cp
    have cp' : loopC (turnM ⟨pg, tabs pg n, none, none⟩ (.slot 1) [1] (.name 1) (.cons (.cmp .notin (.slot 1) (.con (.str (Str.ofString "abcdefghijklmnopqrstuvwxyz")))) .nil) [some (.str x), none]) h.length (Wk.str x.cps.toList).len (.str x.cps.toList) (h ++ [.lst []]) = _ := cp
    have em : (x.cps.toList.filter fun c => !inL c).isEmpty = allL x := by
      unfold allL
      induction x.cps.toList with
      | nil => rfl
      | cons c r ih =>
        simp only [List.filter_cons, List.all_cons]
        cases inL c with
        | true => simpa using ih
        | false => rfl
    have hc : ∀ c ∈ x.cps.toList.filter (fun c => !inL c), c < 0x110000 := fun c h => tx_iff.mp ht c ((List.mem_filter.mp h).1)
    have eq : cmpD .eq (.ref h.length) (.ref (h.length + 1)) (h ++ [.lst (ones (x.cps.toList.filter fun c => !inL c)), .lst []]) = .ok (.bl (allL x)) (h ++ [.lst (ones (x.cps.toList.filter fun c => !inL c)), .lst []]) := by
      rw [← em]
      generalize (x.cps.toList.filter fun c => !inL c) = cs at hc
      have g1 : (h ++ [MO.lst (ones cs), .lst []])[h.length]? = some (.lst (ones cs)) := by simp
      have g2 : (h ++ [MO.lst (ones cs), .lst []])[h.length + 1]? = some (.lst []) := by simp
      have t1 : toP (h ++ [MO.lst (ones cs), .lst []]) deep (.ref h.length) = some (.list (cs.map fun c => PyData.str ⟨#[c]⟩)) := by
        simp only [toP, deep, g1, toP_ones]
      have t2 : toP (h ++ [MO.lst (ones cs), .lst []]) deep (.ref (h.length + 1)) = some (.list []) := by
        simp only [toP, deep, g2, optMap]
      have l1 : PyData.canLay0 (.list (cs.map fun c => PyData.str ⟨#[c]⟩)) = true := by
        simp only [PyData.canLay0, lay_ones cs hc]
      have l2 : PyData.canLay0 (.list []) = true := rfl
      have e0 : PyData.eqv (.list (cs.map fun c => PyData.str ⟨#[c]⟩)) (.list []) = cs.isEmpty := by
        cases cs <;> simp [PyData.eqv, PyData.eqvAll]
      simp only [cmpD, eqD, t1, t2, l1, l2, Bool.and_self, if_true, e0]
    unfold isNm
    by_cases h1 : 1 ≤ x.length
    · have i1 : (1 : Int) ≤ (x.length : Int) := by exact_mod_cast h1
      by_cases h2 : x.length ≤ 8
      · have i2 : (x.length : Int) ≤ 8 := by exact_mod_cast h2
        refine ⟨[.lst (ones (x.cps.toList.filter fun c => !inL c)), .lst []], ?_⟩
        simp [b24, ln, h1, h2, i1, i2, e_comp, wkOf, hz, cp', eq]
      · have i2 : ¬ (x.length : Int) ≤ 8 := by omega
        refine ⟨[], ?_⟩
        simp [b24, ln, h1, h2, i1, i2]
    · have i1 : ¬ (1 : Int) ≤ (x.length : Int) := by omega
      refine ⟨[], ?_⟩
      simp [b24, ln, h1, i1]
  | ref r =>
    refine ⟨[], ?_⟩
    rcases w1 with ⟨xs, e⟩ | ⟨kvs, e⟩ <;> simp [b24, isNm, isTy_lst, isTy_dct, e]
  | scr ns => exact w1.elim
  | _ => exact ⟨[], by simp [b24, isNm]⟩
end K01
namespace K01
open PySem L2 MX
/-! ### the law's fraction test, its start, its words -/
theorem whole {n : Nat} {h : Hh} {d : D} {lo : Int} (w : Wd h d) : cf pg n 20 [d, .int lo] h = .ok (.bl (match d with | .int i => decide (lo ≤ i) | _ => false)) h := by
  rw [cf_eq (fd := d20) rfl rfl rfl]
  cases d with
  | ref r => rcases w with ⟨xs, e⟩ | ⟨kvs, e⟩ <;> simp [b20, isTy_lst, isTy_dct, e]
  | scr ns => exact w.elim
  | int i => by_cases hl : lo ≤ i <;> simp [b20, hl]
  | _ => simp [b20]
theorem law_is_fraction {n : Nat} {h : Hh} {d : D} (w : Ask h d) : cf pg (n + 2) 22 [d] h = .ok (.bl (isFr d)) h := by
  rw [cf_eq (fd := d22) rfl rfl rfl]
  obtain ⟨w1, w2⟩ := w
  cases d with
  | tup xs =>
    match xs, w2 with
    | [], _ => simp [b22, len_tup, isFr]
    | [x], _ => simp [b22, len_tup, isFr]
    | x :: y :: z :: r, _ =>
      have : ¬ ((r.length : Int) + 1 + 1 + 1 = 2) := by omega
      simp [b22, len_tup, isFr, this]
    | [x, y], w2 =>
      obtain ⟨w3, w4⟩ := w2 _ rfl x (by simp)
      obtain ⟨w5, w6⟩ := w2 _ rfl y (by simp)
      have b1 := whole (n := n + 1) (lo := 0) w3
      have b2 := whole (n := n + 1) (lo := 1) w5
      cases x with
      | int a =>
        by_cases h0 : 0 ≤ a
        · cases y with
          | int b =>
            by_cases h1 : 1 ≤ b
            · have dc := div_call (n := n + 1) (h := h) h0 (by omega) (w6 b rfl)
              by_cases h2 : Int.gcd a b = 1
              · simp [b22, len_tup, isFr, b1, b2, h0, h1, h2, dc]
              · have : ¬ ((Int.gcd a b : Nat) : Int) = 1 := by omega
                simp [b22, len_tup, isFr, b1, b2, h0, h1, h2, dc, this]
            · simp [b22, len_tup, isFr, b1, b2, h0, h1]
          | _ => simp [b22, len_tup, isFr, b1, b2, h0]
        · cases y <;> simp [b22, len_tup, isFr, b1, h0]
      | _ => simp [b22, len_tup, isFr, b1]
  | ref r => rcases w1 with ⟨xs, e⟩ | ⟨kvs, e⟩ <;> simp [b22, isFr, isTy_lst, isTy_dct, e]
  | scr ns => exact w1.elim
  | _ => simp [b22, isFr]
theorem start {n : Nat} {at_ : Int} {ns : List Int} {h : Hh} (a0 : 0 ≤ at_) (a1 : at_ < 1000) :
    wp (cf pg n 17 [.scr ns, .int at_] h) (fun v h' => v = .ref h.length ∧ Bag h.length 0 h' ∧ h'.length = h.length + 1) (fun _ _ => False) := by
  rw [cf_eq (fd := d17) rfl rfl rfl]
  have ln : btD .len [.scr ns] h = .ok (.int ns.length) h := rfl
  have pa : ∀ H, binD .pow (.int 10) (.int 61) H = .ok (.int (10 ^ 61)) H := fun H => pow_int (by decide)
  have pb : ∀ H, binD .pow (.int (10 ^ 61)) (.int 11) H = .ok (.int ((10 ^ 61) ^ 11)) H := fun H => pow_int (by decide +kernel)
  have pc : ∀ H, binD .pow (.int 10) (.int 18) H = .ok (.int (10 ^ 18)) H := fun H => pow_int (by decide)
  have mm : ∀ (x : Int) H, binD .mod (.int x) (.int ((10 ^ 61) ^ 11)) H = .ok (.int (x % (10 ^ 61) ^ 11)) H := fun x H => mod_int (Int.pow_pos (Int.pow_pos (by decide)))
  have m1 : ∀ (x : Int) H, binD .mod (.int x) (.int 2147483563) H = .ok (.int (x % 2147483563)) H := fun x H => mod_int (by decide)
  have m2 : ∀ (x : Int) H, binD .mod (.int x) (.int 2147483399) H = .ok (.int (x % 2147483399)) H := fun x H => mod_int (by decide)
  have q1 : ∀ (x : Int) H, binD .mul (.int (x % 2147483563)) (.int 39373) H = .ok (.int (x % 2147483563 * 39373)) H := fun x H => mul_b (Int.emod_nonneg _ (by decide)) (big (n := 2147483563) (Int.emod_lt_of_pos _ (by decide)) (by decide)) (by decide) (by decide)
  have q2 : ∀ H, binD .mul (.int 3001) (.int at_) H = .ok (.int (3001 * at_)) H := fun H => mul_b (by decide) (by decide) a0 (big (n := 1000) a1 (by decide))
  have q3 : ∀ (x : Int) H, 0 ≤ x → x < 2 → binD .mul (.int 11) (.int x) H = .ok (.int (11 * x)) H := fun x H x0 x1 => mul_b (by decide) (by decide) x0 (big (n := 2) x1 (by decide))
  have q4 : ∀ H, binD .mul (.int 31) (.int at_) H = .ok (.int (31 * at_)) H := fun H => mul_b (by decide) (by decide) a0 (big (n := 1000) a1 (by decide))
  have sz : (3 : Nat) ≤ sizeLine := by decide
  have key : ∀ cell : Int, wps (exSs (MX.E0 pg n) (match b17 with | .cons _ r => r | r => r) [some (.scr ns), some (.int at_), some (.int cell), none, none] h) { nx := fun _ _ => False, rt := fun v h' => v = D.ref h.length ∧ Bag h.length 0 h' ∧ h'.length = h.length + 1, ex := fun _ _ _ => False } := by
    intro cell
    have z0 : ∀ x : Int, 0 ≤ x % (10 ^ 61) ^ 11 := fun x => Int.emod_nonneg _ (by decide +kernel)
    have z1 : ∀ x : Int, x % (10 ^ 61) ^ 11 < (10 ^ 61) ^ 11 := fun x => Int.emod_lt_of_pos _ (Int.pow_pos (Int.pow_pos (by decide)))
    have zz : ((10 : Int) ^ 61) ^ 11 < 10 ^ 700 := by
      rw [← Int.pow_mul]
      exact_mod_cast Nat.pow_lt_pow_right (by decide) (by decide)
    generalize hB : ((10 : Int) ^ 61) ^ 11 = B at *
    have fin : ∀ (g m : Int), 0 ≤ g → g < B → Bag h.length 0 (h ++ [.lst [.int (if 10 ^ 18 < g then g - 10 ^ 18 else 0), .int (m % 2147483399), .int 0]]) := fun g m g0 g1 => by
      refine ⟨_, _, _, get_last, ?_, ?_, Int.emod_nonneg _ (by decide), ?_, by decide, by decide⟩
      · split <;> omega
      · split <;> omega
      · have := Int.emod_lt_of_pos m (show (0 : Int) < 2147483399 by decide)
        omega
    by_cases hc : cell < 0
    · simp [-Int.reducePow, b17, btD, bt1, bt2, intsM, M.pure, hc, pa, pb, pc, mm, m1, m2, q1, q2, q3, sz]
      exact fin _ _ (z0 _) (z1 _)
    · simp [-Int.reducePow, b17, btD, bt1, bt2, intsM, M.pure, hc, pa, pb, pc, mm, m1, m2, q1, q2, q3, sz]
      exact fin _ _ (z0 _) (z1 _)
  by_cases hl : at_ < ns.length
  · obtain ⟨d, e1, e2⟩ := atI_mem (xs := ns.map D.int) a0 (by simpa using hl)
    obtain ⟨cell, _, rfl⟩ := List.mem_map.mp e2
    have ix : idxD (.scr ns) (.int at_) h = .ok (.int cell) h := by simp only [idxD, seqOf, e1]
    have k := key cell
    simp only [b17] at k
    rw [wp_ret]
    simp only [b17]
    rw [ss_cons]
    simp only [s_asg, e_ife, e_cmp, e_slot, e_bt, es_cons, es_nil, List.map, List.length, List.replicate, List.append_nil, List.cons_append, List.nil_append, List.getElem?_cons_zero, List.getElem?_cons_succ, slotR_some, rb_ok, ln, lt_int, hl, decide_true, tru_bl, if_true, e_idx, ix, rs_ok, sb_nxt, List.set]
    exact wps_mono k (fun _ _ z => z.elim) (fun _ _ z => z) (fun _ _ z => z) (fun _ _ z => z) fun _ _ _ z => z
  · have k := key (31 * at_ + 7)
    simp only [b17] at k
    rw [wp_ret]
    simp only [b17]
    rw [ss_cons]
    simp only [s_asg, e_ife, e_cmp, e_slot, e_bt, es_cons, es_nil, List.map, List.length, List.replicate, List.append_nil, List.cons_append, List.nil_append, List.getElem?_cons_zero, List.getElem?_cons_succ, slotR_some, rb_ok, ln, lt_int, hl, decide_false, tru_bl, Bool.false_eq_true, if_false, e_bin, e_con, q4, add_int, rs_ok, sb_nxt, List.set]
    exact wps_mono k (fun _ _ z => z.elim) (fun _ _ z => z) (fun _ _ z => z) (fun _ _ z => z) fun _ _ _ z => z
end K01
namespace K01
open PySem L2 MX
/-! ### the law's words -/
def Signs (xs : List D) : Prop := ∀ y ∈ xs, ∃ c, c < 256 ∧ y = sign1 c
theorem strs_of_signs : ∀ xs : List D, Signs xs → ∃ ys : List Str, strsOf xs = some ys ∧ ys.length = xs.length ∧ ∀ y ∈ ys, y.length = 1 ∧ tx y = true
  | [], _ => ⟨[], rfl, rfl, fun y h => (by cases h)⟩
  | x :: r, h => by
    obtain ⟨c, hc, rfl⟩ := h x List.mem_cons_self
    obtain ⟨ys, e1, e2, e3⟩ := strs_of_signs r fun y hy => h y (List.mem_cons_of_mem _ hy)
    refine ⟨⟨#[c]⟩ :: ys, ?_, by simp [e2], ?_⟩
    · show (strsOf r).map (⟨#[c]⟩ :: ·) = _
      rw [e1]
      rfl
    · intro y hy
      rcases List.mem_cons.mp hy with rfl | hy
      · exact ⟨rfl, (tx_iff (x := ⟨#[c]⟩)).mpr fun d hd => by
          simp at hd
          omega⟩
      · exact e3 y hy
theorem tx_joined : ∀ ys : List Str, (∀ y ∈ ys, tx y = true) → tx (Str.join (Str.ofString "") ys) = true
  | [], _ => by decide +kernel
  | [x], h => h x (by simp)
  | x :: y :: r, h => by
    show tx (x ++ Str.ofString "" ++ Str.join (Str.ofString "") (y :: r)) = true
    rw [tx_app, tx_app, h x (by simp), tx_of, tx_joined (y :: r) fun t ht => h t (List.mem_cons_of_mem _ ht)]
    rfl
theorem len_joined : ∀ ys : List Str, (Str.join (Str.ofString "") ys).length = (ys.map (·.length)).sum
  | [] => rfl
  | [x] => by
    show x.length = _
    simp
  | x :: y :: r => by
    show (x ++ Str.ofString "" ++ Str.join (Str.ofString "") (y :: r)).length = _
    have z : (Str.ofString "").length = 0 := by decide
    rw [len_app, len_app, len_joined (y :: r), z, List.map_cons, List.map_cons, List.sum_cons]
    rfl
theorem join_signs {xs : List D} {h : Hh} {r : Nat} (hs : Signs xs) (e : h[r]? = some (.lst xs)) (hl : xs.length ≤ 1000) : ∃ x, bmD .join (.str (Str.ofString "")) [.ref r] h = .ok (.str x) h ∧ x.length ≤ 1000 ∧ tx x = true := by
  obtain ⟨ys, e1, e2, e3⟩ := strs_of_signs xs hs
  have sm : (ys.map (·.length)).sum = ys.length := by
    clear e1 e2
    induction ys with
    | nil => rfl
    | cons a r ih =>
      have h1 := (e3 a List.mem_cons_self).1
      have h2 := ih fun y hy => e3 y (List.mem_cons_of_mem _ hy)
      simp only [List.map_cons, List.sum_cons, List.length_cons]
      omega
  refine ⟨PySem.Txt.join (Str.ofString "") ys, ?_, ?_, ?_⟩
  · have z : (Str.ofString "").length = 0 := by decide
    have lim : (ys.map (·.length)).sum + ys.length * (Str.ofString "").length ≤ 16777216 := by
      rw [sm, z]
      omega
    simp only [bmD, bt1, joinM, seqOf, e, e1, if_pos lim]
  · show (Builtin.Str.glued (Str.ofString "") ys).length ≤ 1000
    rw [StrLaws.glued_eq_join, len_joined]
    omega
  · show tx (Builtin.Str.glued (Str.ofString "") ys) = true
    rw [StrLaws.glued_eq_join]
    exact tx_joined ys fun y hy => (e3 y hy).2
theorem Bag.set {r k q : Nat} {h : Hh} {o : MO} (B : Bag r k h) (hq : q ≠ r) : Bag r k (h.set q o) := by
  obtain ⟨a, b, c, e, w⟩ := B.ex
  exact ⟨⟨a, b, c, by rw [List.getElem?_set_ne hq]; exact e, w⟩⟩
theorem signs_of (s : String) (h : (Str.ofString s).cps.toList.all (· < 256) = true) : Signs ((Str.ofString s).cps.toList.map sign1) := by
  intro y hy
  obtain ⟨c, hc, rfl⟩ := List.mem_map.mp hy
  exact ⟨c, by simpa using List.all_eq_true.mp h c hc, rfl⟩
theorem Signs.app {xs ys : List D} (a : Signs xs) (b : Signs ys) : Signs (xs ++ ys) := fun y h => (List.mem_append.mp h).elim (a y) (b y)
theorem word {n r k : Nat} {h : Hh} (B : Bag r k h) (hk : k + 30 < 10 ^ 9) :
    wp (cf pg (n + 2) 25 [.ref r] h) (fun v h' => ∃ x : Str, v = .str x ∧ x.length ≤ 1000 ∧ tx x = true ∧ Bag r (k + 20) h' ∧ Keep r h h') (fun _ _ => False) := by
  rw [cf_eq (fd := d25) rfl rfl rfl]
  simp only [b25, wp_ret, ss_cons, s_asg, e_comp, i_rng, es_cons, es_nil, e_con, e_call, e_slot, wps_sb, wps_rs, wp_rb, wp_ok, List.map, List.length, List.replicate, List.append_nil, List.cons_append, List.getElem?_cons_zero, slotR_some]
  refine wp_mono (throw B (by omega) (by decide) (by decide)) (fun v h1 z => ?_) fun _ _ z => z
  obtain ⟨i, rfl, i0, i1, B1, K1, L1⟩ := z
  have wr : wkRng (.int i) h1 = .ok (.rng 0 i.toNat) h1 := by
    simp only [wkRng]
    rw [if_pos ⟨by omega, by omega⟩]
  rw [wr]
  simp only [wp_ok]
  have hr1 := B1.lt
  have it : i.toNat < 10 := by omega
  refine wp_mono (comp_wp (wk := .rng 0 i.toNat) (h := h1) (E := fun _ _ => False) (Q := fun _ h' => ∃ acc, h'[h1.length]? = some (.lst acc) ∧ Signs acc ∧ acc.length ≤ 9 ∧ Bag r (k + 10) h' ∧ Keep r h1 h') rfl (fun ys acc h' => h'[h1.length]? = some (.lst acc) ∧ Signs acc ∧ acc.length + ys.length ≤ 9 ∧ Bag r (k + 1 + acc.length) h' ∧ Keep r h1 h') ?_ ?_ ?_ ?_) (fun v h2 z => ?_) fun _ _ z => z
  · refine ⟨get_last, fun y hy => (by cases hy), ?_, B1.app _, Keep.app _⟩
    simp
    omega
  · rintro ys acc h' ⟨z1, z2, z3, z4⟩
    have : 9 ≤ sizeLine := by decide
    exact ⟨z1, by omega⟩
  · rintro d ys acc h' ⟨z1, z2, z3, z4, z5⟩
    rw [turn_eq (env' := [some (.ref r), none, some d]) rfl]
    have li : ∀ H, btD .list [.str (Str.ofString "abcxyzz")] H = .ok (.ref H.length) (H ++ [.lst ((Str.ofString "abcxyzz").cps.toList.map sign1)]) := fun H => rfl
    simp only [cond_nil, rb_ok, if_true, e_call, es_cons, es_nil, e_slot, e_bt, e_con, List.getElem?_cons_zero, slotR_some, li]
    rw [wp_nx, wp_rb]
    have z4' := z4.app [MO.lst ((Str.ofString "abcxyzz").cps.toList.map sign1)]
    have hlt : h1.length < h'.length := (List.getElem?_eq_some_iff.mp z1).1
    have hr2 := z4.lt
    rw [List.length_cons] at z3
    refine wp_mono (pick z4' (by omega) get_last (by omega) (by decide) (by decide)) (fun v h2 z => ?_) fun _ _ z => z
    obtain ⟨w1, w2, w3, w4⟩ := z
    have w5 := w3.at_ h1.length _ (by omega) (by rw [List.getElem?_append_left hlt]; exact z1)
    have hlt2 : h1.length < h2.length := (List.getElem?_eq_some_iff.mp w5).1
    refine ⟨w5, by simp [hlt2], z2.app fun y hy => ?_, by simp; omega, ?_, ?_⟩
    · rw [List.mem_singleton.mp hy]
      exact signs_of _ (by decide +kernel) v w1
    · rw [List.length_append]
      exact w2.set (by omega)
    · refine ⟨?_, fun q o hq e => ?_⟩
      · rw [List.length_set]
        omega
      · have hq2 : q < h1.length := (List.getElem?_eq_some_iff.mp e).1
        rw [List.getElem?_set_ne (by omega)]
        refine w3.at_ q o hq ?_
        have e' := z5.at_ q o hq e
        rw [List.getElem?_append_left (by omega)]
        exact e'
  · rintro acc h' ⟨z1, z2, z3, z4, z5⟩
    exact ⟨acc, z1, z2, by simpa using z3, z4.mono (by simp at z3; omega), z5⟩
  · obtain ⟨acc, z1, z2, z3, z4, z5⟩ := z
    have hr2 := z4.lt
    have hL : h1.length < h2.length := (List.getElem?_eq_some_iff.mp z1).1
    simp only [rs_ok, wp_ok, sb_nxt, wps_nxt, List.set, List.nil_append, s_if, e_cmp, e_call, es_cons, es_nil, e_slot, e_con, List.getElem?_cons_zero, slotR_some, rb_ok, wps_sb, wps_rs, wp_rb]
    refine wp_mono (throw z4 (by omega) (by decide) (by decide)) (fun v h3 z => ?_) fun _ _ z => z
    obtain ⟨j, rfl, j0, j1, B3, K3, L3⟩ := z
    have y1 := K3.at_ h1.length _ (by omega) z1
    have last : ∀ (acc : List D) (h3 : Hh) (m : Nat), h3[h1.length]? = some (.lst acc) → Signs acc → acc.length ≤ 10 → Bag r m h3 → m ≤ k + 20 → Keep r h1 h3 → wps (exS (MX.E0 pg (n + 2)) (.ret (.bm .join (.con (.str (Str.ofString ""))) (.cons (.slot 1) .nil))) [some (.ref r), some (.ref h1.length), none] h3) { nx := fun _ _ => False, rt := fun v h' => ∃ x : Str, v = D.str x ∧ x.length ≤ 1000 ∧ tx x = true ∧ Bag r (k + 20) h' ∧ Keep r h h', ex := fun _ _ _ => False } := by
      intro acc h3 m a1 a2 a3 a4 a5 a6
      obtain ⟨x, e1, e2, e3⟩ := join_signs a2 a1 (by omega)
      simp [bmK, M.pure, e1]
      exact ⟨e2, e3, a4.mono a5, K1.trans a6⟩
    have K13 : Keep r h1 h3 := z5.trans K3
    simp only [eq_int, wp_ok, tru_bl]
    by_cases hj : j = 0
    · simp only [hj, decide_true, if_true]
      have ln : btD .len [.ref h1.length] h3 = .ok (.int acc.length) h3 := by simp [btD, bt1, lenD, y1]
      have bk : bmK .insert (.ref h1.length) h3 = .ok () h3 := by simp only [bmK, y1]
      simp only [ss_cons, ss_nil, s_expr, e_bm, e_slot, e_call, es_cons, es_nil, e_bin, e_bt, e_con, e_lst, List.getElem?_cons_zero, List.getElem?_cons_succ, slotR_some, rb_ok, bk, ln, add_int, wps_sb, wps_rs, wp_rb, wp_ok]
      refine wp_mono (throw B3 (by omega) (by omega) (by omega)) (fun v h4 z => ?_) fun _ _ z => z
      obtain ⟨p, rfl, p0, p1, B4, K4, L4⟩ := z
      have y2 := K4.at_ h1.length _ (by omega) y1
      have hL4 : h1.length < h4.length := (List.getElem?_eq_some_iff.mp y2).1
      have hr4 := B4.lt
      have sz : (6 : Nat) ≤ sizeLine := by decide
      simp only [List.length_cons, List.length_nil, Nat.zero_add, Nat.reduceAdd, if_pos sz, wp_ok]
      generalize hs : [D.str (Str.ofString "A"), .str (Str.ofString "1"), .str (Str.ofString " "), .str (Str.ofString "_"), .str (Str.ofString "\n"), .str (Str.ofString "-")] = six
      have s1 : six.length = 6 := by rw [← hs]; rfl
      have s2 : Signs six := by
        rw [← hs]
        intro y hy
        simp only [List.mem_cons, List.not_mem_nil, or_false] at hy
        rcases hy with rfl | rfl | rfl | rfl | rfl | rfl
        · exact ⟨65, by decide, rfl⟩
        · exact ⟨49, by decide, rfl⟩
        · exact ⟨32, by decide, rfl⟩
        · exact ⟨95, by decide, rfl⟩
        · exact ⟨10, by decide, rfl⟩
        · exact ⟨45, by decide, rfl⟩
      refine wp_mono (pick (B4.app [MO.lst six]) (by omega) get_last (by omega) (by omega) (by omega)) (fun v h5 z => ?_) fun _ _ z => z
      obtain ⟨w1, B5, K5, L5⟩ := z
      have y3 := K5.at_ h1.length _ (by omega) (by rw [List.getElem?_append_left hL4]; exact y2)
      have hL5 : h1.length < h5.length := (List.getElem?_eq_some_iff.mp y3).1
      have lim : acc.length < sizeLine ∧ 0 ≤ p ∧ p < 1000000 := ⟨Nat.lt_of_le_of_lt z3 (by decide), p0, by omega⟩
      have ins : bmD .insert (.ref h1.length) [.int p, v] h5 = .ok .non (h5.set h1.length (.lst (acc.take p.toNat ++ [v] ++ acc.drop p.toNat))) := by
        simp only [bmD, bt2, insertM, y3, if_pos lim]
      rw [ins]
      simp only [wp_ok, wps_nxt]
      refine wps_mono (last (acc.take p.toNat ++ [v] ++ acc.drop p.toNat) _ (k + 10 + 1 + 1 + 1) (by simp [hL5]) ?_ ?_ (B5.set (by omega)) (by omega) ?_) (fun _ _ z => z.elim) (fun _ _ z => z) (fun _ _ z => z) (fun _ _ z => z) fun _ _ _ z => z
      · refine Signs.app (Signs.app (fun y hy => z2 y (List.mem_of_mem_take hy)) fun y hy => ?_) fun y hy => z2 y (List.mem_of_mem_drop hy)
        rw [List.mem_singleton.mp hy]
        exact s2 v w1
      · simp only [List.length_append, List.length_take, List.length_drop, List.length_cons, List.length_nil]
        omega
      · refine ⟨?_, fun q o hq e => ?_⟩
        · rw [List.length_set]
          omega
        · have hq2 : q < h1.length := (List.getElem?_eq_some_iff.mp e).1
          rw [List.getElem?_set_ne (by omega)]
          refine K5.at_ q o hq ?_
          rw [List.getElem?_append_left (by omega)]
          exact K4.at_ q o hq (K13.at_ q o hq e)
    · simp only [hj, decide_false, Bool.false_eq_true, if_false, ss_nil, wps_nxt]
      exact wps_mono (last acc h3 _ y1 z2 (by omega) B3 (by omega) K13) (fun _ _ z => z.elim) (fun _ _ z => z) (fun _ _ z => z) (fun _ _ z => z) fun _ _ _ z => z
end K01
namespace K01
open PySem L2 MX
/-! ### alike, shown -/
mutual
theorem eqv_self : ∀ p : PyData, p.canLay0 = true → PyData.eqv p p = true
  | .none, _ => rfl
  | .bool b, _ => by simp [PyData.eqv]
  | .int i, _ => by simp [PyData.eqv]
  | .str x, h => by simp [PyData.eqv]
  | .list xs, h => by
    simp only [PyData.eqv]
    simp only [PyData.canLay0] at h
    exact eqvs_self xs h
  | .tuple xs, h => by
    simp only [PyData.eqv]
    simp only [PyData.canLay0] at h
    exact eqvs_self xs h
  | .dict kvs, h => by
    simp only [PyData.canLay0, Bool.false_eq_true] at h
theorem eqvs_self : ∀ ps : List PyData, PyData.canLayAll0 ps = true → PyData.eqvAll ps ps = true
  | [], _ => rfl
  | p :: r, h => by
    simp only [PyData.canLayAll0, Bool.and_eq_true] at h
    simp only [PyData.eqvAll, eqv_self p h.1, eqvs_self r h.2, Bool.and_self]
end
theorem eqD_same {h : Hh} {a b : D} {p : PyData} (ea : toP h deep a = some p) (eb : toP h deep b = some p) (g : p.canLay0 = true) : eqD h a b = some true := by
  simp only [eqD, ea, eb, g, Bool.and_self, if_true, eqv_self p g]
theorem ne_same {h : Hh} {a b : D} {p : PyData} (ea : toP h deep a = some p) (eb : toP h deep b = some p) (g : p.canLay0 = true) : cmpD .ne a b h = .ok (.bl false) h := by
  simp only [cmpD, eqD_same ea eb g, Bool.not_true]
theorem eq_same {h : Hh} {a b : D} {p : PyData} (ea : toP h deep a = some p) (eb : toP h deep b = some p) (g : p.canLay0 = true) : cmpD .eq a b h = .ok (.bl true) h := by
  simp only [cmpD, eqD_same ea eb g]
theorem repr_good {h : Hh} {d : D} {p : PyData} (e : toP h deep d = some p) (g : goodP p = true) (k : repOk p = true) (z : szP p ≤ sizeLine) : reprD h d = some p.shown := by
  obtain ⟨_, g2, g3⟩ := good_show p g
  have l : p.shown.length ≤ sizeLine := Nat.le_trans g2 z
  simp only [reprD, e, g3, k, Bool.and_self, Bool.true_and, l, decide_true, if_true]
theorem bt_repr {h : Hh} {d : D} {p : PyData} (e : toP h deep d = some p) (g : goodP p = true) (k : repOk p = true) (z : szP p ≤ sizeLine) : btD .repr [d] h = .ok (.str p.shown) h := by
  simp only [btD, bt1, repr_good e g k z]
theorem ne_str {h : Hh} {x : Str} (t : tx x = true) : cmpD .ne (.str x) (.str x) h = .ok (.bl false) h := ne_same (p := .str x) rfl rfl t
/-! ### the law's catch -/
theorem e_lam {n g : Nat} {t : Option (M D)} {x : Option XV} {b : CE} {env : MX.Env} {h : Hh} : evE ⟨pg, tabs pg (n + 2), t, x⟩ (.lam g b) env h = (mkCl pg (tabs pg (n + 1))).callL g (evE ⟨pg, tabs pg n, t, x⟩ b env) h := by
  simp only [evE]
  rfl
theorem met_eq {n : Nat} {m : M D} {h : Hh} : (mkCl pg (tabs pg n)).callL 23 m h = retR (exSs ⟨pg, tabs pg n, some m, none⟩ b23 [none, none] h) := rfl
theorem met_none {n : Nat} {m : M D} {h h' : Hh} (e : m h = .exc ⟨0, []⟩ h') : (mkCl pg (tabs pg n)).callL 23 m h = .ok (.str (Str.ofString "no fraction")) h' := by
  rw [met_eq]
  simp [b23, exS, exSs, exH, evE, liftE, e, pg, sub, M.pure]
theorem met_num {n : Nat} {m : M D} {h h' : Hh} {d : D} {x : Str} (e : m h = .exc ⟨1, [(0, d)]⟩ h') (r : btD .repr [d] h' = .ok (.str x) h') (z : x.length ≤ 100000) : (mkCl pg (tabs pg n)).callL 23 m h = .ok (.str (Str.ofString "number " ++ x)) h' := by
  have l : (Str.ofString "number ").length + x.length ≤ sizeLine := by
    have : (Str.ofString "number ").length = 7 := rfl
    have : 100007 ≤ sizeLine := by decide
    omega
  rw [met_eq]
  simp [b23, exS, exSs, exH, evE, evEs, liftE, e, pg, sub, M.pure, M.bind, M.opt, List.lookup, r, binD, addD, l]
end K01
namespace K01
open PySem L2 MX
/-! ### what is met is gathered -/
/-- the list at q, made since hs, holds xs; what hs held stays -/
structure Fd (hs : Hh) (r q : Nat) (xs : List D) (H : Hh) : Prop where
  k : Keep r hs H
  q0 : hs.length ≤ q
  e : H[q]? = some (.lst xs)
theorem Fd.mk1 {hs H : Hh} {r : Nat} {xs : List D} (k : Keep r hs H) : Fd hs r H.length xs (H ++ [.lst xs]) := ⟨k.trans (Keep.app _), k.len, get_last⟩
theorem Fd.step {hs H : Hh} {r q : Nat} {xs : List D} {d : D} (F : Fd hs r q xs H) (g : Hh) : Fd hs r q (xs ++ [d]) ((H ++ g).set q (.lst (xs ++ [d]))) := by
  have hq : q < H.length := (List.getElem?_eq_some_iff.mp F.e).1
  refine ⟨⟨?_, fun k o n e => ?_⟩, F.q0, List.getElem?_set_self (by rw [List.length_append]; omega)⟩
  · have := F.k.len
    simp
    omega
  · have hk : k < hs.length := (List.getElem?_eq_some_iff.mp e).1
    have := F.q0
    rw [List.getElem?_set_ne (by omega)]
    have e2 := F.k.at_ k o n e
    rw [List.getElem?_append_left (List.getElem?_eq_some_iff.mp e2).1]
    exact e2
theorem app_call {hs H : Hh} {ev : Ev} {env : MX.Env} {r q i : Nat} {xs : List D} {d : D} {c : CE} {g : Hh} (F : Fd hs r q xs H) (hl : xs.length ≤ 100) (he : env[i]? = some (some (.ref q))) (hc : evE ev c env H = .ok d (H ++ g)) :
    exS ev (.expr (.bm .append (.slot i) (.cons c .nil))) env H = .nxt env ((H ++ g).set q (.lst (xs ++ [d]))) := by
  have hq : q < H.length := (List.getElem?_eq_some_iff.mp F.e).1
  have z : xs.length < sizeLine := Nat.lt_of_le_of_lt hl (by decide)
  have e2 : (H ++ g)[q]? = some (.lst xs) := by
    rw [List.getElem?_append_left hq]
    exact F.e
  have bk : bmK .append (.ref q) H = .ok () H := by simp only [bmK, F.e]
  have ap : bmD .append (.ref q) [d] (H ++ g) = .ok .non ((H ++ g).set q (.lst (xs ++ [d]))) := by simp only [bmD, bt1, appendM, e2, if_pos z]
  simp [he, bk, hc, ap]
abbrev nf : D := .str (Str.ofString "no fraction")
theorem toP_strs {h : Hh} {k : Nat} : ∀ xs : List Str, optMap (toP h (k + 1)) (xs.map D.str) = some (xs.map PyData.str)
  | [] => rfl
  | x :: r => by
    have := toP_strs (h := h) (k := k) r
    simp only [List.map_cons, optMap, toP, this]
theorem lay_strs : ∀ xs : List Str, (∀ x ∈ xs, tx x = true) → PyData.canLayAll0 (xs.map PyData.str) = true
  | [], _ => rfl
  | x :: r, h => by
    simp only [List.map_cons, PyData.canLayAll0, lay_strs r fun d hd => h d (List.mem_cons_of_mem _ hd), Bool.and_true]
    exact h x List.mem_cons_self
/-- two lists of the same texts -/
theorem ne_strs {h : Hh} {a b : Nat} {xs : List Str} (t : ∀ x ∈ xs, tx x = true) (ea : h[a]? = some (.lst (xs.map D.str))) (eb : h[b]? = some (.lst (xs.map D.str))) : cmpD .ne (.ref a) (.ref b) h = .ok (.bl false) h :=
  ne_same (p := .list (xs.map PyData.str)) (by simp only [toP, deep, ea, toP_strs]) (by simp only [toP, deep, eb, toP_strs]) (by simp only [PyData.canLay0, lay_strs xs t])
theorem eq_strs {h : Hh} {a b : Nat} {xs : List Str} (t : ∀ x ∈ xs, tx x = true) (ea : h[a]? = some (.lst (xs.map D.str))) (eb : h[b]? = some (.lst (xs.map D.str))) : cmpD .eq (.ref a) (.ref b) h = .ok (.bl true) h :=
  eq_same (p := .list (xs.map PyData.str)) (by simp only [toP, deep, ea, toP_strs]) (by simp only [toP, deep, eb, toP_strs]) (by simp only [PyData.canLay0, lay_strs xs t])
theorem tx_nf : tx (Str.ofString "no fraction") = true := tx_of _
/-- a value that may be asked of and shown, for as long as the bag alone is changed -/
def Val (r : Nat) (h : Hh) (v : D) : Prop := ∃ p, goodP p = true ∧ repOk p = true ∧ szP p ≤ 1000000 ∧ ∀ h', Keep r h h' → Ask h' v ∧ Nm h' v ∧ toP h' deep v = some p
theorem Val.keep {r : Nat} {h h' : Hh} {v : D} (V : Val r h v) (k : Keep r h h') : Val r h' v := by
  obtain ⟨p, a, b, c, d⟩ := V
  exact ⟨p, a, b, c, fun h2 k2 => d h2 (k.trans k2)⟩
theorem sz21 (a b : Bool) : szP (.list [.bool a, .bool b]) ≤ sizeLine := by
  have : 16 ≤ sizeLine := by decide
  simpa [szP, szPs] using this
theorem rep2 {h : Hh} {a b : Bool} : btD .repr [.ref h.length] (h ++ [.lst [.bl a, .bl b]]) = .ok (.str (PyData.shown (.list [.bool a, .bool b]))) (h ++ [.lst [.bl a, .bl b]]) :=
  bt_repr (p := .list [.bool a, .bool b]) (by simp only [toP, deep, get_last, optMap]) rfl rfl (sz21 a b)
theorem ask12 {h : Hh} : Ask h (fr (1, 2)) := ask_fr (by decide) (by decide)
theorem fr12 : isFr (fr (1, 2)) = true := by decide +kernel
/-- the four ways a bad value is met -/
theorem met4 {n r : Nat} {hs H : Hh} {v : D} {env : MX.Env} (V : Val r hs v) (b : isFr v = false) (he : env[2]? = some (some v)) (k : Keep r hs H) :
    (∃ g, evE (MX.E0 pg (n + 8)) (.lam 23 (.call 11 (.cons (.slot 2) (.cons (.tup (.cons (.con (.int 1)) (.cons (.con (.int 2)) .nil))) .nil)))) env H = .ok nf (H ++ g)) ∧
    (∃ g, evE (MX.E0 pg (n + 8)) (.lam 23 (.call 10 (.cons (.tup (.cons (.con (.int 1)) (.cons (.con (.int 2)) .nil))) (.cons (.slot 2) .nil)))) env H = .ok nf (H ++ g)) ∧
    (∃ g, evE (MX.E0 pg (n + 8)) (.lam 23 (.call 15 (.cons (.tup (.cons (.tup (.cons (.con (.int 1)) (.cons (.con (.int 2)) .nil))) (.cons (.slot 2) .nil))) .nil))) env H = .ok nf (H ++ g)) ∧
    (∃ g, evE (MX.E0 pg (n + 8)) (.lam 23 (.call 16 (.cons (.tup (.cons (.slot 2) .nil)) .nil))) env H = .ok nf (H ++ g)) := by
  obtain ⟨p, _, _, _, w⟩ := V
  obtain ⟨A, _, _⟩ := w H k
  have Aa : ∀ acc, Ask (H ++ acc) v := fun acc => (w (H ++ acc) (k.trans (Keep.app _))).1
  have sz2 : (2 : Nat) ≤ sizeLine := by decide
  have sz1 : (1 : Nat) ≤ sizeLine := by decide
  refine ⟨⟨[], ?_⟩, ⟨[], ?_⟩, ?_, ?_⟩
  · rw [e_lam (n := n + 6), List.append_nil]
    refine met_none ?_
    simp [he, sz2, compared_bad (n := n + 1) A ask12 (.inl b)]
  · rw [e_lam (n := n + 6), List.append_nil]
    refine met_none ?_
    simp [he, sz2, product_bad (n := n + 1) ask12 A (.inr b)]
  · have As : Asks H (.tup [fr (1, 2), v]) := ⟨trivial, fun xs e => by
      cases e
      refine ⟨by simp, fun x hx acc => ?_⟩
      simp only [List.mem_cons, List.not_mem_nil, or_false] at hx
      rcases hx with rfl | rfl
      · exact ask12
      · exact Aa _⟩
    obtain ⟨g, hg⟩ := least_bad (n := n + 1) As (by simp [isFrs, b])
    refine ⟨g, ?_⟩
    rw [e_lam (n := n + 6)]
    refine met_none ?_
    simp [he, sz2, hg]
  · have As : Asks H (.tup [v]) := ⟨trivial, fun xs e => by
      cases e
      refine ⟨by simp, fun x hx acc => ?_⟩
      rw [List.mem_singleton.mp hx]
      exact Aa _⟩
    obtain ⟨g, hg⟩ := greatest_bad (n := n + 1) As (by simp [isFrs, b])
    refine ⟨g, ?_⟩
    rw [e_lam (n := n + 6)]
    refine met_none ?_
    simp [he, sz1, hg]
end K01
namespace K01
open PySem L2 MX
/-! ### the values are told apart -/
def vb : CSs := (.cons (.asg (.name 5) (.bt .repr (.cons (.slot 2) .nil))) (.cons (.ifS (.cmp .ne (.bt .repr (.cons (.lst (.cons (.call 4 (.cons (.slot 2) .nil)) (.cons (.call 2 (.cons (.slot 2) .nil)) .nil))) .nil)) (.bt .repr (.cons (.lst (.cons (.call 22 (.cons (.slot 2) .nil)) (.cons (.call 24 (.cons (.slot 2) .nil)) .nil))) .nil))) (.cons (.ret (.con (.bl false))) .nil) .nil) (.cons (.ifS (.notE (.call 22 (.cons (.slot 2) .nil))) (.cons (.asg (.name 6) (.lst (.cons (.lam 23 (.call 11 (.cons (.slot 2) (.cons (.tup (.cons (.con (.int (1))) (.cons (.con (.int (2))) .nil))) .nil)))) .nil))) (.cons (.expr (.bm .append (.slot 6) (.cons (.lam 23 (.call 10 (.cons (.tup (.cons (.con (.int (1))) (.cons (.con (.int (2))) .nil))) (.cons (.slot 2) .nil)))) .nil))) (.cons (.expr (.bm .append (.slot 6) (.cons (.lam 23 (.call 15 (.cons (.tup (.cons (.tup (.cons (.con (.int (1))) (.cons (.con (.int (2))) .nil))) (.cons (.slot 2) .nil))) .nil))) .nil))) (.cons (.expr (.bm .append (.slot 6) (.cons (.lam 23 (.call 16 (.cons (.tup (.cons (.slot 2) .nil)) .nil))) .nil))) (.cons (.ifS (.cmp .ne (.slot 6) (.bin .mul (.lst (.cons (.con (.str (Str.ofString "no fraction"))) .nil)) (.con (.int (4))))) (.cons (.ret (.con (.bl false))) .nil) .nil) .nil))))) .nil) (.cons (.ifS (.cmp .ne (.bt .repr (.cons (.slot 2) .nil)) (.slot 5)) (.cons (.ret (.con (.bl false))) .nil) .nil) .nil))))
theorem vturn {n r rv : Nat} {hs H : Hh} {v : D} {e0 x y z5 z6 : Option D} (V : Val r hs v) (k : Keep r hs H) :
    wps (exSs (MX.E0 pg (n + 8)) vb [e0, some (.ref rv), some v, x, y, z5, z6] H) { nx := fun env' H' => (∃ z5 z6, env' = [e0, some (.ref rv), some v, x, y, z5, z6]) ∧ Keep r hs H', rt := fun _ _ => False, ex := fun _ _ _ => False } := by
  obtain ⟨p, gp, rp, zp, w⟩ := id V
  have rep : ∀ h', Keep r hs h' → btD .repr [v] h' = .ok (.str p.shown) h' := fun h' k' => bt_repr (w h' k').2.2 gp rp (Nat.le_trans zp (by decide))
  have tp : tx p.shown = true := (good_show p gp).1
  obtain ⟨A, N, _⟩ := w H k
  obtain ⟨g1, c2⟩ := is_name (n := n + 7) N
  have c4 := is_fraction (n := n + 5) A
  have k1 : Keep r hs (H ++ g1 ++ [.lst [.bl (isFr v), .bl (isNm v)]]) := (k.trans (Keep.app _)).trans (Keep.app _)
  obtain ⟨A1, N1, _⟩ := w _ k1
  obtain ⟨g2, c24⟩ := law_is_name (n := n + 7) N1
  have c22 := law_is_fraction (n := n + 5) A1
  have k2 : Keep r hs (H ++ g1 ++ [.lst [.bl (isFr v), .bl (isNm v)]] ++ g2 ++ [.lst [.bl (isFr v), .bl (isNm v)]]) := (k1.trans (Keep.app _)).trans (Keep.app _)
  generalize hH2 : (H ++ g1 ++ [.lst [.bl (isFr v), .bl (isNm v)]] ++ g2 ++ [.lst [.bl (isFr v), .bl (isNm v)]] : Hh) = H2 at k2
  have sz2 : (2 : Nat) ≤ sizeLine := by decide
  obtain ⟨A2, _, _⟩ := w _ k2
  have d22 := law_is_fraction (n := n + 5) A2
  have tr : tx (PyData.shown (.list [.bool (isFr v), .bool (isNm v)])) = true := (good_show (.list [.bool (isFr v), .bool (isNm v)]) rfl).1
  simp only [vb, ss_cons, s_asg, e_bt, es_cons, es_nil, e_slot, List.getElem?_cons_zero, List.getElem?_cons_succ, slotR_some, rb_ok, rep H k, rs_ok, sb_nxt, List.set]
  simp only [s_if, e_cmp, e_bt, es_cons, es_nil, e_lst, e_call, e_slot, List.getElem?_cons_zero, List.getElem?_cons_succ, slotR_some, rb_ok, c4, c2, List.length_cons, List.length_nil, Nat.zero_add, Nat.reduceAdd, if_pos sz2, rep2, c22, c24]
  rw [hH2]
  simp only [ne_str tr, rb_ok, tru_bl, rs_ok, Bool.false_eq_true, if_false, ss_nil, sb_nxt]
  simp only [e_not, e_call, es_cons, es_nil, e_slot, List.getElem?_cons_zero, List.getElem?_cons_succ, slotR_some, rb_ok, d22, tru_bl, rs_ok]
  cases hb : isFr v with
  | true =>
    simp only [Bool.not_true, Bool.false_eq_true, if_false, ss_nil, sb_nxt, rep H2 k2, ne_str tp, rb_ok, tru_bl, rs_ok, e_slot, List.getElem?_cons_zero, List.getElem?_cons_succ, slotR_some, wps_nxt]
    exact ⟨⟨_, _, rfl⟩, k2⟩
  | false =>
    have he : ∀ z : Option D, [e0, some (D.ref rv), some v, x, y, some (D.str p.shown), z][2]? = some (some v) := fun z => rfl
    have l4 : ∀ (z : Option D) H', Keep r hs H' → _ := fun z H' k' => met4 (n := n) V hb (he z) k'
    obtain ⟨⟨ga, ea⟩, _⟩ := l4 z6 H2 k2
    have F1 : Fd hs r (H2 ++ ga).length [nf] ((H2 ++ ga) ++ [.lst [nf]]) := Fd.mk1 (k2.trans (Keep.app _))
    generalize hq : (H2 ++ ga).length = q at F1
    obtain ⟨_, ⟨gb, eb⟩, _⟩ := l4 (some (.ref q)) _ F1.k
    have F2 := F1.step (d := nf) gb
    obtain ⟨_, _, ⟨gc, ec⟩, _⟩ := l4 (some (.ref q)) _ F2.k
    have F3 := F2.step (d := nf) gc
    obtain ⟨_, _, _, ⟨gd, ed⟩⟩ := l4 (some (.ref q)) _ F3.k
    have F4 := F3.step (d := nf) gd
    have sz1 : (1 : Nat) ≤ sizeLine := by decide
    simp only [Bool.not_false, if_true, ss_cons, s_asg, e_lst, es_cons, es_nil, ea, rb_ok, List.length_cons, List.length_nil, Nat.zero_add, if_pos sz1, rs_ok, sb_nxt, List.set, hq]
    rw [app_call F1 (by simp) rfl eb]
    simp only [sb_nxt]
    rw [app_call F2 (by simp) rfl ec]
    simp only [sb_nxt]
    rw [app_call F3 (by simp) rfl ed]
    simp only [sb_nxt]
    have k4 := F4.k
    have e4 := F4.e
    generalize hH4 : List.set _ q _ = H4 at F4 k4 e4 ⊢
    have hq4 : q < H4.length := (List.getElem?_eq_some_iff.mp e4).1
    have mu : binD .mul (.ref H4.length) (.int 4) (H4 ++ [.lst [nf]]) = .ok (.ref (H4.length + 1)) (H4 ++ [.lst [nf]] ++ [.lst [nf, nf, nf, nf]]) := by
      have e1 : (H4 ++ [MO.lst [nf]])[H4.length]? = some (.lst [nf]) := get_last
      have e2 : (0 : Int) ≤ 4 ∧ (4 : Int) < 1000000 ∧ [nf].length * (4 : Int).toNat ≤ sizeLine := ⟨by decide, by decide, (show 4 ≤ sizeLine by decide)⟩
      simp only [binD, mulD, e1, if_pos e2]
      simp only [MX.alloc, List.length_append]
      rfl
    have k5 : Keep r hs (H4 ++ [.lst [nf]] ++ [.lst [nf, nf, nf, nf]]) := (k4.trans (Keep.app _)).trans (Keep.app _)
    have ne4 : cmpD .ne (.ref q) (.ref (H4.length + 1)) (H4 ++ [.lst [nf]] ++ [.lst [nf, nf, nf, nf]]) = .ok (.bl false) (H4 ++ [.lst [nf]] ++ [.lst [nf, nf, nf, nf]]) := by
      refine ne_strs (xs := [Str.ofString "no fraction", Str.ofString "no fraction", Str.ofString "no fraction", Str.ofString "no fraction"]) (fun x hx => ?_) ?_ ?_
      · simp only [List.mem_cons, List.not_mem_nil, or_false, or_self] at hx
        rw [hx]
        exact tx_nf
      · rw [List.append_assoc, List.getElem?_append_left hq4]
        exact e4
      · simp
    simp only [s_if, e_cmp, e_slot, e_bin, e_lst, e_con, es_cons, es_nil, List.getElem?_cons_zero, List.getElem?_cons_succ, slotR_some, rb_ok, List.length_cons, List.length_nil, Nat.zero_add, if_pos sz1, mu, ne4, tru_bl, rs_ok, Bool.false_eq_true, if_false, ss_nil, sb_nxt, e_bt, rep _ k5, ne_str tp, wps_nxt]
    exact ⟨⟨_, _, rfl⟩, k5⟩
end K01
namespace K01
open PySem L2 MX
/-! ### the values that are tried -/
def Flat : D → Prop
  | .non => True
  | .bl _ => True
  | .int i => i.natAbs < 10 ^ 50
  | .str x => x.length ≤ 1000 ∧ tx x = true
  | _ => False
def fp : D → PyData
  | .bl b => .bool b
  | .int i => .int i
  | .str x => .str x
  | _ => .none
theorem flat_P {h : Hh} {k : Nat} {x : D} (f : Flat x) : toP h (k + 1) x = some (fp x) := by
  cases x <;> first | rfl | exact f.elim
theorem flat_Ps {h : Hh} {k : Nat} : ∀ xs : List D, (∀ x ∈ xs, Flat x) → optMap (toP h (k + 1)) xs = some (xs.map fp)
  | [], _ => rfl
  | x :: r, f => by
    simp only [optMap, flat_P (f x List.mem_cons_self), flat_Ps r fun y hy => f y (List.mem_cons_of_mem _ hy), List.map_cons]
theorem log_50 {m : Nat} (h : m < 10 ^ 50) : m.log2 < 1920 := by
  by_cases z : m = 0
  · subst z
    decide
  · exact (Nat.log2_lt z).mpr (Nat.lt_trans h (by decide +kernel))
theorem flat_good {x : D} (f : Flat x) : goodP (fp x) = true ∧ szP (fp x) ≤ 10002 ∧ (fp x).hasDict = false ∧ repOk (fp x) = true := by
  cases x with
  | int i => exact ⟨by simpa [fp, goodP] using log_50 f, by simp [fp, szP], rfl, rfl⟩
  | str x => exact ⟨f.2, by simp only [fp, szP]; have := f.1; omega, rfl, rfl⟩
  | non => exact ⟨rfl, by decide, rfl, rfl⟩
  | bl b => exact ⟨rfl, by simp [fp, szP], rfl, rfl⟩
  | tup xs => exact f.elim
  | ref r => exact f.elim
  | scr ns => exact f.elim
theorem flat_goods : ∀ xs : List D, (∀ x ∈ xs, Flat x) → goodPs (xs.map fp) = true ∧ szPs (xs.map fp) ≤ 10004 * xs.length ∧ (PyData.tuple (xs.map fp)).hasDict = false
  | [], _ => ⟨rfl, Nat.le_refl _, rfl⟩
  | x :: r, f => by
    obtain ⟨a1, a2, a3, _⟩ := flat_good (f x List.mem_cons_self)
    obtain ⟨b1, b2, b3⟩ := flat_goods r fun y hy => f y (List.mem_cons_of_mem _ hy)
    refine ⟨by simp only [List.map_cons, goodPs, a1, b1, Bool.and_self], ?_, ?_⟩
    · simp only [List.map_cons, szPs, List.length_cons]
      omega
    · simp only [PyData.hasDict] at b3 ⊢
      simp only [List.map_cons, PyData.hasDictAll, a3, b3, Bool.or_self]
theorem Flat.sm {x : D} (f : Flat x) {i : Int} (e : x = .int i) : Sm i := by
  subst e
  exact Nat.lt_trans f (by decide +kernel)
theorem Flat.wd {x : D} (f : Flat x) (h : Hh) : Wd h x := by
  cases x <;> first | exact trivial | exact f.elim
theorem val_flat {j : Nat} {h : Hh} {x : D} (f : Flat x) : Val j h x := by
  obtain ⟨a1, a2, _, a4⟩ := flat_good f
  refine ⟨fp x, a1, a4, Nat.le_trans a2 (by decide), fun h' k => ⟨⟨f.wd h', fun xs e => ?_⟩, ⟨f.wd h', fun y e => ?_⟩, flat_P f⟩⟩
  · subst e
    exact f.elim
  · subst e
    exact f
theorem val_tup {j : Nat} {h : Hh} {xs : List D} (f : ∀ x ∈ xs, Flat x) (l : xs.length ≤ 50) : Val j h (.tup xs) := by
  obtain ⟨a1, a2, a3⟩ := flat_goods xs f
  refine ⟨.tuple (xs.map fp), a1, by simp [repOk, a3], ?_, fun h' k => ⟨⟨trivial, fun ys e => ?_⟩, ⟨trivial, fun y e => by cases e⟩, ?_⟩⟩
  · simp only [szP]
    omega
  · cases e
    exact fun x hx => ⟨(f x hx).wd h', fun i e => (f x hx).sm e⟩
  · simp only [toP, deep, flat_Ps xs f]
theorem val_lst {j q : Nat} {h : Hh} {xs : List D} (e : h[q]? = some (.lst xs)) (hq : q ≠ j) (f : ∀ x ∈ xs, Flat x) (l : xs.length ≤ 50) : Val j h (.ref q) := by
  obtain ⟨a1, a2, a3⟩ := flat_goods xs f
  refine ⟨.list (xs.map fp), a1, ?_, ?_, fun h' k => ⟨⟨.inl ⟨xs, k.at_ q _ hq e⟩, fun ys e => (by cases e)⟩, ⟨.inl ⟨xs, k.at_ q _ hq e⟩, fun y e => by cases e⟩, ?_⟩⟩
  · simp only [PyData.hasDict] at a3
    simp [repOk, PyData.hasDict, a3]
  · simp only [szP]
    omega
  · simp only [toP, deep, k.at_ q _ hq e, flat_Ps xs f]
theorem val_dct {j q : Nat} {h : Hh} (e : h[q]? = some (.dct [])) (hq : q ≠ j) : Val j h (.ref q) :=
  ⟨.dict [], rfl, rfl, by decide, fun h' k => ⟨⟨.inr ⟨[], k.at_ q _ hq e⟩, fun ys e => (by cases e)⟩, ⟨.inr ⟨[], k.at_ q _ hq e⟩, fun y e => by cases e⟩, by simp only [toP, deep, k.at_ q _ hq e, optMap]⟩⟩
theorem val_pair3 {j : Nat} {h : Hh} : Val j h (.tup [.tup [.int 1, .int 2], .int 3]) :=
  ⟨.tuple [.tuple [.int 1, .int 2], .int 3], by decide +kernel, rfl, by decide, fun h' k => ⟨⟨trivial, fun xs e => by
    cases e
    intro x hx
    simp only [List.mem_cons, List.not_mem_nil, or_false] at hx
    rcases hx with rfl | rfl
    · exact ⟨trivial, fun i e => by cases e⟩
    · exact ⟨trivial, fun i e => by
        cases e
        show (3 : Nat) < _
        decide +kernel⟩⟩, ⟨trivial, fun y e => by cases e⟩, rfl⟩⟩
theorem val_odd {j q : Nat} {h : Hh} (e : h[q]? = some (.lst [.int 2])) (hq : q ≠ j) : Val j h (.tup [.int 1, .ref q]) :=
  ⟨.tuple [.int 1, .list [.int 2]], by decide +kernel, rfl, by decide, fun h' k => ⟨⟨trivial, fun xs e' => by
    cases e'
    intro x hx
    simp only [List.mem_cons, List.not_mem_nil, or_false] at hx
    rcases hx with rfl | rfl
    · exact ⟨trivial, fun i e => by
        cases e
        show (1 : Nat) < _
        decide +kernel⟩
    · exact ⟨.inl ⟨_, k.at_ q _ hq e⟩, fun i e => by cases e⟩⟩, ⟨trivial, fun y e => by cases e⟩, by simp only [toP, deep, k.at_ q _ hq e, optMap]⟩⟩
end K01
namespace K01
open PySem L2 MX
/-! ### the values are right -/
theorem flat_int {i : Int} (h0 : 0 ≤ i) (h1 : i < 10 ^ 45) : Flat (.int i) := by
  show i.natAbs < 10 ^ 50
  have : (10 : Nat) ^ 45 < 10 ^ 50 := by decide
  omega
theorem values {n r k : Nat} {h : Hh} (B : Bag r k h) (hk : k + 100 < 10 ^ 9) :
    wp (cf pg (n + 9) 29 [.ref r] h) (fun v h' => v = .bl true ∧ Bag r (k + 30) h' ∧ Keep r h h') (fun _ _ => False) := by
  rw [cf_eq (fd := d29) rfl rfl rfl]
  simp only [b29, wp_ret, ss_cons, s_par, e_call, es_cons, es_nil, e_slot, wps_sb, wps_rs, wp_rb, wp_ok, List.map, List.length, List.replicate, List.append_nil, List.cons_append, List.nil_append, List.getElem?_cons_zero, slotR_some]
  refine wp_mono (number B (by omega)) (fun v h1 z => ?_) fun _ _ z => z
  obtain ⟨a, rfl, a0, a1, B1, K1⟩ := z
  refine wp_mono (number B1 (by omega)) (fun v h2 z => ?_) fun _ _ z => z
  obtain ⟨b, rfl, b0, b1, B2, K2⟩ := z
  have K02 := K1.trans K2
  have sz : ∀ m : Nat, m ≤ 50 → m ≤ sizeLine := fun m h => Nat.le_trans h (by decide)
  have s1 := sz 1 (by decide)
  have s2 := sz 2 (by decide)
  have s3 := sz 3 (by decide)
  have s10 := sz 10 (by decide)
  simp only [wps_nxt, List.set, s_asg, e_lst, e_tup, e_neg, es_cons, es_nil, e_slot, e_con, e_bin, add_int, List.getElem?_cons_zero, List.getElem?_cons_succ, slotR_some, rb_ok, List.length_cons, List.length_nil, Nat.zero_add, Nat.reduceAdd, if_pos s1, if_pos s2, if_pos s3, if_pos s10, rs_ok]
  simp only [e_call, es_cons, es_nil, e_slot, e_edct, e_bin, List.getElem?_cons_zero, List.getElem?_cons_succ, slotR_some, rb_ok, wps_rs, wp_rb, wp_ok]
  generalize hL1 : [D.tup [D.int a, D.int b], D.tup [D.int b, D.int (a + 1)], D.tup [D.int a, D.int 1], D.tup [D.int a, D.int (1 + b)], D.ref (List.length h2), D.tup [D.int a], D.tup [D.int 1, D.int 2, D.int 3], D.tup [D.int (-1), D.int 2], D.tup [D.int 1, D.int (-2)], D.tup [D.int 0, D.int 2]] = L1
  have l1 : L1.length = 10 := by rw [← hL1]; rfl
  have B3 := (B2.app [MO.lst [D.int 1, D.int 2]]).app [MO.lst L1]
  have r2 := B2.lt
  refine wp_mono (word B3 (by omega)) (fun v h3 z => ?_) fun _ _ z => z
  obtain ⟨x, rfl, x1, x2, B4, K4⟩ := z
  have q1 : h3[h2.length]? = some (.lst [.int 1, .int 2]) := K4.at_ _ _ (by omega) (by simp)
  have q2 : h3[(h2 ++ [MO.lst [D.int 1, D.int 2]]).length]? = some (.lst L1) := K4.at_ _ _ (by simp; omega) (by simp)
  have K03 : Keep r h h3 := (K02.trans ((Keep.app _).trans (Keep.app _))).trans K4
  generalize hq2 : (h2 ++ [MO.lst [D.int 1, D.int 2]]).length = p2 at q2
  have r3 := B4.lt
  have lt2' : p2 < h3.length := (List.getElem?_eq_some_iff.mp q2).1
  have lt1' : h2.length < h3.length := (List.getElem?_eq_some_iff.mp q1).1
  simp only [wp_ok, List.length_cons, List.length_nil, Nat.zero_add, Nat.reduceAdd, if_pos s10]
  generalize hL2 : [D.tup [D.bl true, D.int 1], D.tup [D.int 1, D.bl true], D.tup [D.non, D.int 1], D.tup [D.str (Str.ofString "1"), D.int 2], D.str x, D.non, D.ref h3.length, D.tup [D.tup [D.int 1, D.int 2], D.int 3], D.tup [D.int 0, D.int 0], D.int 3] = L2
  have l2 : L2.length = 10 := by rw [← hL2]; rfl
  have n3 : (h3 ++ [MO.dct []]).length = h3.length + 1 := by simp
  rw [n3]
  generalize hh4 : h3 ++ [MO.dct []] ++ [MO.lst L2] = h4
  have n4 : h4.length = h3.length + 2 := by rw [← hh4]; simp
  have K04 : Keep r h h4 := by rw [← hh4]; exact (K03.trans (Keep.app _)).trans (Keep.app _)
  have B5 : Bag r (k + 3 + 3 + 20) h4 := by rw [← hh4]; exact (B4.app _).app _
  have t1 : h4[h2.length]? = some (MO.lst [.int 1, .int 2]) := by rw [← hh4, List.append_assoc, List.getElem?_append_left lt1']; exact q1
  have t2 : h4[p2]? = some (MO.lst L1) := by rw [← hh4, List.append_assoc, List.getElem?_append_left lt2']; exact q2
  have t3 : h4[h3.length]? = some (.dct []) := by rw [← hh4]; simp
  have t4 : h4[h3.length + 1]? = some (MO.lst L2) := by rw [← hh4]; simp
  have ad : binD .add (.ref p2) (.ref (h3.length + 1)) h4 = .ok (.ref h4.length) (h4 ++ [MO.lst (L1 ++ L2)]) := by
    have z : L1.length + L2.length ≤ sizeLine := by rw [l1, l2]; exact sz 20 (by decide)
    simp only [binD, addD, t2, t4, if_pos z]
    rfl
  rw [ad]
  simp only [wp_ok, wps_nxt]
  have F0 : Fd h4 h4.length h4.length (L1 ++ L2) (h4 ++ [MO.lst (L1 ++ L2)]) := Fd.mk1 (Keep.refl _ _)
  have lt' : (L1 ++ L2).length ≤ 100 := by rw [List.length_append, l1, l2]; decide
  rw [app_call (g := [MO.lst [.int 2]]) (d := .tup [.int 1, .ref (h4 ++ [MO.lst (L1 ++ L2)]).length]) F0 lt' rfl (by simp [s1, s2])]
  have F1 := F0.step (d := .tup [.int 1, .ref (h4 ++ [MO.lst (L1 ++ L2)]).length]) [MO.lst [.int 2]]
  have n5 : (h4 ++ [MO.lst (L1 ++ L2)]).length = h4.length + 1 := by simp
  rw [n5] at F1 ⊢
  have t5 : (((h4 ++ [MO.lst (L1 ++ L2)]) ++ [MO.lst [.int 2]]).set h4.length (MO.lst ((L1 ++ L2) ++ [D.tup [.int 1, .ref (h4.length + 1)]])))[h4.length + 1]? = some (MO.lst [.int 2]) := by
    rw [List.getElem?_set_ne (by omega)]
    simp
  have B6 : Bag r (k + 3 + 3 + 20) (((h4 ++ [MO.lst (L1 ++ L2)]) ++ [MO.lst [.int 2]]).set h4.length (MO.lst ((L1 ++ L2) ++ [D.tup [.int 1, .ref (h4.length + 1)]]))) := ((B5.app _).app _).set (by omega)
  generalize hL : (L1 ++ L2) ++ [D.tup [.int 1, .ref (h4.length + 1)]] = L at F1 t5 B6 ⊢
  generalize hhs : ((h4 ++ [MO.lst (L1 ++ L2)]) ++ [MO.lst [.int 2]]).set h4.length (MO.lst L) = hs at F1 t5 B6 ⊢
  have K05 : Keep r h hs := by
    refine ⟨?_, fun q o hq e => F1.k.at_ q o ?_ (K04.at_ q o hq e)⟩
    · have := K04.len
      have := F1.k.len
      omega
    · have := (List.getElem?_eq_some_iff.mp e).1
      have := K04.len
      omega
  have lt1 : h2.length < h4.length := (List.getElem?_eq_some_iff.mp t1).1
  have u1 := F1.k.at_ _ _ (by omega) t1
  have u3 := F1.k.at_ _ _ (by omega) t3
  have hl4 : h4.length + 1 < hs.length := (List.getElem?_eq_some_iff.mp t5).1
  have vals : ∀ v ∈ L, Val hs.length hs v := by
    have fa : Flat (.int a) := flat_int a0 (by omega)
    have fb : Flat (.int b) := flat_int b0 (by omega)
    have fa1 : Flat (.int (a + 1)) := flat_int (by omega) (by omega)
    have fb1 : Flat (.int (1 + b)) := flat_int (by omega) (by omega)
    have f0 : ∀ i : Int, i.natAbs ≤ 3 → Flat (.int i) := fun i h => Nat.lt_of_le_of_lt h (by decide +kernel)
    have f2 : ∀ x y, Flat x → Flat y → Val hs.length hs (.tup [x, y]) := fun x y fx fy => val_tup (by
      intro z hz
      simp only [List.mem_cons, List.not_mem_nil, or_false] at hz
      rcases hz with rfl | rfl
      · exact fx
      · exact fy) (by simp)
    rw [← hL]
    intro v hv
    rcases List.mem_append.mp hv with hv | hv
    · rcases List.mem_append.mp hv with hv | hv
      · rw [← hL1] at hv
        simp only [List.mem_cons, List.not_mem_nil, or_false] at hv
        rcases hv with rfl | rfl | rfl | rfl | rfl | rfl | rfl | rfl | rfl | rfl
        · exact f2 _ _ fa fb
        · exact f2 _ _ fb fa1
        · exact f2 _ _ fa (f0 _ (by decide))
        · exact f2 _ _ fa fb1
        · exact val_lst u1 (by omega) (by
            intro z hz
            simp only [List.mem_cons, List.not_mem_nil, or_false] at hz
            rcases hz with rfl | rfl <;> exact f0 _ (by decide)) (by simp)
        · exact val_tup (by
            intro z hz
            rw [List.mem_singleton.mp hz]
            exact fa) (by simp)
        · exact val_tup (by
            intro z hz
            simp only [List.mem_cons, List.not_mem_nil, or_false] at hz
            rcases hz with rfl | rfl | rfl <;> exact f0 _ (by decide)) (by simp)
        · exact f2 _ _ (f0 _ (by decide)) (f0 _ (by decide))
        · exact f2 _ _ (f0 _ (by decide)) (f0 _ (by decide))
        · exact f2 _ _ (f0 _ (by decide)) (f0 _ (by decide))
      · rw [← hL2] at hv
        simp only [List.mem_cons, List.not_mem_nil, or_false] at hv
        rcases hv with rfl | rfl | rfl | rfl | rfl | rfl | rfl | rfl | rfl | rfl
        · exact f2 _ _ trivial (f0 _ (by decide))
        · exact f2 _ _ (f0 _ (by decide)) trivial
        · exact f2 _ _ trivial (f0 _ (by decide))
        · exact f2 _ _ ⟨by decide, tx_of _⟩ (f0 _ (by decide))
        · exact val_flat ⟨x1, x2⟩
        · exact val_flat trivial
        · exact val_dct u3 (by omega)
        · exact val_pair3
        · exact f2 _ _ (f0 _ (by decide)) (f0 _ (by decide))
        · exact val_flat (f0 _ (by decide))
    · rw [List.mem_singleton.mp hv]
      exact val_odd t5 (by omega)
  have e5 := F1.e
  have wk : wkOf (.ref h4.length) hs = .ok (.lst h4.length 0 L.length) hs := by simp only [wkOf, seqOf, e5]
  simp only [wps_nxt, s_for, i_seq, e_slot, List.getElem?_cons_zero, List.getElem?_cons_succ, slotR_some, rb_ok, wk, rs_ok]
  simp only [Wk.len]
  refine for_lst L (fun ys env H' => (∃ z2 z5 z6, env = [some (.ref r), some (.ref h4.length), z2, some (.int a), some (.int b), z5, z6]) ∧ Keep hs.length hs H' ∧ ∀ v ∈ ys, v ∈ L) ?_ ?_ ?_ ⟨⟨_, _, _, rfl⟩, Keep.refl _ _, fun v h => h⟩
  · rintro ys env H' ⟨_, k', _⟩
    exact k'.at_ _ _ (by omega) e5
  · rintro d ys env H' hd ⟨⟨z2, z5, z6, rfl⟩, k', hy⟩
    have w := vturn (n := n + 1) (rv := h4.length) (e0 := some (.ref r)) (x := some (.int a)) (y := some (.int b)) (z5 := z5) (z6 := z6) (vals d hd) k'
    simp only [asgT, List.set]
    exact wps_mono w (fun e h' z => ⟨⟨_, z.1⟩, z.2, fun v hv => hy v (List.mem_cons_of_mem _ hv)⟩) (fun _ _ z => z.elim) (fun _ _ z => z.elim) (fun _ _ z => z.elim) fun _ _ _ z => z
  · rintro env H' ⟨⟨z2, z5, z6, rfl⟩, k', _⟩
    simp only [s_ret, e_con, rs_ok, wps_ret]
    have hr := B6.lt
    refine ⟨trivial, ?_, K05.trans ⟨k'.len, fun q o _ e => k'.at_ q o (by have := (List.getElem?_eq_some_iff.mp e).1; omega) e⟩⟩
    obtain ⟨b1, b2, b3, e, w1, w2, w3, w4, w5, w6⟩ := B6.ex
    exact ⟨⟨b1, b2, b3, k'.at_ _ _ (by omega) e, w1, w2, w3, w4, w5, by omega⟩⟩
end K01
namespace K01
open PySem L2 MX
/-! ### the least and the greatest -/
theorem keep_some (lt : Int × Int → Int × Int → Bool) : ∀ (ps : List (Int × Int)) (q : Int × Int), ∃ m, ps.foldl (keep1 lt) (some q) = some m
  | [], q => ⟨q, rfl⟩
  | p :: r, q => by
    show ∃ m, r.foldl (keep1 lt) (if lt p q = true then some p else some q) = some m
    split
    · exact keep_some lt r p
    · exact keep_some lt r q
theorem best (lt : Int × Int → Int × Int → Bool) (S : Int × Int → Prop) (tr : ∀ a b c, S a → S b → S c → lt b a = false → lt c b = false → lt c a = false) (as : ∀ a b, S a → S b → lt a b = true → lt b a = false) (ir : ∀ a, lt a a = false) :
    ∀ (ps : List (Int × Int)) (o : Option (Int × Int)), (∀ p ∈ ps, S p) → (∀ q, o = some q → S q) → ∀ m, ps.foldl (keep1 lt) o = some m → (m ∈ ps ∨ o = some m) ∧ (∀ p ∈ ps, lt p m = false) ∧ (∀ q, o = some q → lt q m = false) ∧ S m
  | [], o, _, so, m, e => ⟨.inr e, fun p h => (by cases h), fun q h => (by
      rw [show o = some m from e] at h
      cases h
      exact ir m), so m e⟩
  | p :: r, o, sp, so, m, e => by
    have s1 := sp p List.mem_cons_self
    have s2 : ∀ x ∈ r, S x := fun x h => sp x (List.mem_cons_of_mem _ h)
    cases o with
    | none =>
      obtain ⟨a, b, c, d⟩ := best lt S tr as ir r (some p) s2 (fun q h => (by cases h; exact s1)) m e
      refine ⟨.inl ?_, fun x hx => ?_, fun q h => (by cases h), d⟩
      · rcases a with a | a
        · exact List.mem_cons_of_mem _ a
        · cases a
          exact List.mem_cons_self
      · rcases List.mem_cons.mp hx with rfl | hx
        · exact c _ rfl
        · exact b x hx
    | some q =>
      have sq := so q rfl
      cases hb : lt p q with
      | true =>
        have e' : r.foldl (keep1 lt) (some p) = some m := by
          rw [List.foldl_cons] at e
          simpa [keep1, hb] using e
        obtain ⟨a, b, c, d⟩ := best lt S tr as ir r (some p) s2 (fun q h => (by cases h; exact s1)) m e'
        refine ⟨.inl ?_, fun x hx => ?_, fun q' h => ?_, d⟩
        · rcases a with a | a
          · exact List.mem_cons_of_mem _ a
          · cases a
            exact List.mem_cons_self
        · rcases List.mem_cons.mp hx with rfl | hx
          · exact c _ rfl
          · exact b x hx
        · cases h
          exact tr m p q d s1 sq (c p rfl) (as p q s1 sq hb)
      | false =>
        have e' : r.foldl (keep1 lt) (some q) = some m := by
          rw [List.foldl_cons] at e
          simpa [keep1, hb] using e
        obtain ⟨a, b, c, d⟩ := best lt S tr as ir r (some q) s2 (fun q h => (by cases h; exact sq)) m e'
        refine ⟨?_, fun x hx => ?_, fun q' h => ?_, d⟩
        · rcases a with a | a
          · exact .inl (List.mem_cons_of_mem _ a)
          · exact .inr a
        · rcases List.mem_cons.mp hx with rfl | hx
          · exact tr m q x d sq s1 (c q rfl) hb
          · exact b x hx
        · cases h
          exact c q rfl
theorem lt2_tr (a b c : Int × Int) (ha : 0 < a.2) (hb : 0 < b.2) (hc : 0 < c.2) (h1 : lt2 b a = false) (h2 : lt2 c b = false) : lt2 c a = false := by
  simp only [lt2, decide_eq_false_iff_not, Int.not_lt] at *
  refine Int.le_of_mul_le_mul_left ?_ hb
  have x1 := Int.mul_le_mul_of_nonneg_left h1 (Int.le_of_lt hc)
  have x2 := Int.mul_le_mul_of_nonneg_left h2 (Int.le_of_lt ha)
  calc b.2 * (a.1 * c.2) = c.2 * (a.1 * b.2) := by simp only [Int.mul_comm, Int.mul_left_comm, Int.mul_assoc]
    _ ≤ c.2 * (b.1 * a.2) := x1
    _ = a.2 * (b.1 * c.2) := by simp only [Int.mul_comm, Int.mul_left_comm, Int.mul_assoc]
    _ ≤ a.2 * (c.1 * b.2) := x2
    _ = b.2 * (c.1 * a.2) := by simp only [Int.mul_comm, Int.mul_left_comm, Int.mul_assoc]
theorem lt2_as (a b : Int × Int) (h : lt2 a b = true) : lt2 b a = false := by
  simp only [lt2, decide_eq_true_eq, decide_eq_false_iff_not, Int.not_lt] at *
  omega
theorem lt2_ir (a : Int × Int) : lt2 a a = false := by simp [lt2]
abbrev Pos (p : Int × Int) : Prop := 0 < p.2
theorem least_is {ps : List (Int × Int)} {m : Int × Int} (s : ∀ p ∈ ps, Pos p) (e : ps.foldl (keep1 lt2) none = some m) : m ∈ ps ∧ ∀ p ∈ ps, lt2 p m = false := by
  obtain ⟨a, b, _, _⟩ := best lt2 Pos (fun a b c => lt2_tr a b c) (fun a b _ _ => lt2_as a b) lt2_ir ps none s (fun q h => by cases h) m e
  exact ⟨a.elim id (fun h => by cases h), b⟩
theorem greatest_is {ps : List (Int × Int)} {m : Int × Int} (s : ∀ p ∈ ps, Pos p) (e : ps.foldl (keep1 gt2) none = some m) : m ∈ ps ∧ ∀ p ∈ ps, lt2 m p = false := by
  obtain ⟨a, b, _, _⟩ := best gt2 Pos (fun a b c ha hb hc h1 h2 => lt2_tr c b a hc hb ha h2 h1) (fun a b _ _ h => lt2_as b a h) lt2_ir ps none s (fun q h => by cases h) m e
  exact ⟨a.elim id (fun h => by cases h), b⟩
theorem fold_none {lt : Int × Int → Int × Int → Bool} {ps : List (Int × Int)} (h : ps ≠ []) : ∃ m, ps.foldl (keep1 lt) none = some m := by
  cases ps with
  | nil => exact absurd rfl h
  | cons p r => exact keep_some lt r p
/-! ### sums -/
theorem mul_d {i j : Int} {h : Hh} (i0 : 0 ≤ i) (i1 : i < 10 ^ 42) (j0 : 0 ≤ j) (j1 : j < 10 ^ 42) : binD .mul (.int i) (.int j) h = .ok (.int (i * j)) h := by
  have q : (10 : Nat) ^ 42 ≤ 2 ^ 1000 := by decide
  exact mul_b i0 (big (n := 10 ^ 42) (by exact_mod_cast i1) q) j0 (big (n := 10 ^ 42) (by exact_mod_cast j1) q)
theorem make3 {n : Nat} {a b : Int} {h : Hh} (ha : 0 ≤ a) (hb : 1 ≤ b) (sb : b < 10 ^ 42) : cf pg (n + 2) 9 [.int (3 * a), .int (3 * b)] h = .ok (.tup [.int (a / Int.gcd a b), .int (b / Int.gcd a b)]) h := by
  have p : (10 : Int) ^ 42 * 3 < 10 ^ 90 := by decide
  rw [make_ok (by omega) (by omega) (sm_of (by omega) (by omega))]
  have g : ((Int.gcd (3 * a) (3 * b) : Nat) : Int) = 3 * (Int.gcd a b : Nat) := by
    rw [Int.gcd_mul_left]
    simp
  rw [g, Int.mul_ediv_mul_of_pos _ _ (by decide), Int.mul_ediv_mul_of_pos _ _ (by decide)]
theorem same_fr {a b c d : Int} (x : Drawn a b) (y : Drawn c d) (e : a * d = c * b) : a = c ∧ b = d := by
  obtain ⟨m, rfl⟩ := Int.eq_ofNat_of_zero_le x.a0
  obtain ⟨k, rfl⟩ := Int.eq_ofNat_of_zero_le (show (0 : Int) ≤ b by have := x.b0; omega)
  obtain ⟨i, rfl⟩ := Int.eq_ofNat_of_zero_le y.a0
  obtain ⟨j, rfl⟩ := Int.eq_ofNat_of_zero_le (show (0 : Int) ≤ d by have := y.b0; omega)
  have g1 : Nat.gcd m k = 1 := x.g
  have g2 : Nat.gcd i j = 1 := y.g
  have e' : m * j = i * k := by exact_mod_cast e
  have k0 : 0 < k := by have := x.b0; omega
  have d1 : k ∣ j := (Nat.Coprime.symm g1 : Nat.Coprime k m).dvd_of_dvd_mul_left (by rw [e']; exact Nat.dvd_mul_left _ _)
  have d2 : j ∣ k := (Nat.Coprime.symm g2 : Nat.Coprime j i).dvd_of_dvd_mul_left (by rw [← e']; exact Nat.dvd_mul_left _ _)
  have kj := Nat.dvd_antisymm d1 d2
  subst kj
  have := Nat.eq_of_mul_eq_mul_right k0 e'
  exact ⟨by omega, rfl⟩
def way (a b c d : Int) : String := if a * d - c * b = 0 then "equal" else if a * d - c * b < 0 then "less" else "greater"
theorem compared' {n : Nat} {a b c d : Int} {h : Hh} (x : Drawn a b) (y : Drawn c d) : cf pg (n + 4) 11 [.tup [.int a, .int b], .tup [.int c, .int d]] h = .ok (.str (Str.ofString (way a b c d))) h := by
  rw [compared x y]
  unfold way
  by_cases e : a * d - c * b = 0
  · have := same_fr x y (by omega)
    rw [if_pos this, if_pos e]
  · rw [if_neg (fun z => e (by rw [z.1, z.2]; omega)), if_neg e]
    by_cases l : a * d < c * b
    · rw [if_pos l, if_pos (by omega)]
    · rw [if_neg l, if_neg (by omega)]
abbrev Dr (p : Int × Int) : Prop := Drawn p.1 p.2
theorem toP_frs {h : Hh} {k : Nat} : ∀ ps : List (Int × Int), optMap (toP h (k + 2)) (ps.map fr) = some (ps.map fun p => PyData.tuple [.int p.1, .int p.2])
  | [] => rfl
  | p :: r => by
    have := toP_frs (h := h) (k := k) r
    simp only [List.map_cons, optMap, toP, this]
theorem lay_frs : ∀ ps : List (Int × Int), PyData.canLayAll0 (ps.map fun p => PyData.tuple [.int p.1, .int p.2]) = true
  | [] => rfl
  | p :: r => by simp only [List.map_cons, PyData.canLayAll0, lay_frs r, PyData.canLay0, Bool.and_self]
theorem notin_frs {h : Hh} {p : Int × Int} {ps : List (Int × Int)} (m : p ∈ ps) : cmpD .notin (fr p) (.tup (ps.map fr)) h = .ok (.bl false) h := by
  have t1 : toP h deep (fr p) = some (.tuple [.int p.1, .int p.2]) := rfl
  have t2 : optMap (toP h deep) (ps.map fr) = _ := toP_frs (k := 18) ps
  have l1 : PyData.canLay0 (.tuple [.int p.1, .int p.2]) = true := rfl
  have e : (ps.map fun p => PyData.tuple [.int p.1, .int p.2]).any (fun q => PyData.eqv q (.tuple [.int p.1, .int p.2])) = true := by
    rw [List.any_eq_true]
    exact ⟨_, List.mem_map.mpr ⟨p, m, rfl⟩, eqv_self _ l1⟩
  simp only [cmpD, inD, seqOf, t1, t2, l1, lay_frs, Bool.and_self, if_true, e, Bool.not_true]
theorem eq_unit {h : Hh} {ps : List (Int × Int)} : cmpD .eq (.tup (ps.map fr)) (.tup []) h = .ok (.bl ps.isEmpty) h := by
  have t1 : toP h deep (.tup (ps.map fr)) = some (.tuple (ps.map fun p => PyData.tuple [.int p.1, .int p.2])) := by
    simp only [toP, deep, toP_frs]
  have t2 : toP h deep (.tup []) = some (.tuple []) := rfl
  have l1 : PyData.canLay0 (.tuple (ps.map fun p => PyData.tuple [.int p.1, .int p.2])) = true := lay_frs ps
  have l2 : PyData.canLay0 (.tuple []) = true := rfl
  have e : PyData.eqv (.tuple (ps.map fun p => PyData.tuple [.int p.1, .int p.2])) (.tuple []) = ps.isEmpty := by
    cases ps <;> rfl
  simp only [cmpD, eqD, t1, t2, l1, l2, Bool.and_self, if_true, e]
theorem eq_nils {h : Hh} : cmpD .eq (.ref h.length) (.ref (h ++ [MO.lst []]).length) ((h ++ [.lst []]) ++ [.lst []]) = .ok (.bl true) ((h ++ [.lst []]) ++ [.lst []]) :=
  eq_strs (xs := []) (fun x hx => by cases hx) (by simp) (by simp)
end K01
namespace K01
open PySem L2 MX
def dropS : Nat → CSs → CSs
  | 0, x => x
  | n + 1, .cons _ r => dropS n r
  | _ + 1, .nil => .nil
def takeT : Nat → CSs → CSs → CSs
  | 0, _, t => t
  | n + 1, .cons s r, t => .cons s (takeT n r t)
  | _ + 1, .nil, t => t
theorem sumsD {n r : Nat} {h6 : Hh} {P : Po} {ps : List (Int × Int)} {x1 x3 x4 x5 x6 x7 x8 : Option D} (z2 : ∀ p ∈ ps, Dr p) (z3 : ps.length ≤ 5) (fin : ∀ g, P.rt (.bl true) (h6 ++ g)) :
    wps (exSs (MX.E0 pg (n + 9)) (dropS 7 b30) [some (.ref r), x1, some (.tup (ps.map fr)), x3, x4, x5, x6, x7, x8, none, none, none] h6) P := by
  have qq : (10 : Int) ^ 42 < 10 ^ 90 := by decide
  simp only [b30, dropS, ss_cons, wps_sb]
  have sp : ∀ p ∈ ps, Sp p := fun p hp => by
    have w := z2 p hp
    exact ⟨w.a0, by have := w.a1; omega, by have := w.b0; omega, by have := w.b1; omega⟩
  have po : ∀ p ∈ ps, Pos p := fun p hp => by have := (z2 p hp).b0; show 0 < p.2; omega
  have fs : ∀ p ∈ ps, isFr (fr p) = true := fun p hp => drawn_fr (z2 p hp)
  have le3 : ps.length ≤ 1000 := by omega
  obtain ⟨g1, e1⟩ := least_fraction (n := n + 4) (h := h6) le3 sp fs
  obtain ⟨g2, e2⟩ := greatest_fraction (n := n + 4) (h := h6 ++ g1) le3 sp fs
  have sz2 : (2 : Nat) ≤ sizeLine := by decide
  have sz0 : (0 : Nat) ≤ sizeLine := by decide
  simp only [s_asgT, e_tup, e_call, es_cons, es_nil, e_slot, List.getElem?_cons_zero, List.getElem?_cons_succ, slotR_some, rb_ok, wp_ok, e1, e2, List.length_cons, List.length_nil, Nat.zero_add, Nat.reduceAdd, if_pos sz2, rs_ok, asgT, asgTs, List.set, wps_nxt]
  simp only [s_if, e_cmp, e_tup, e_slot, es_nil, List.getElem?_cons_zero, List.getElem?_cons_succ, slotR_some, rb_ok, wp_ok, List.length_nil, if_pos sz0, eq_unit, tru_bl, rs_ok]
  by_cases hp : ps = []
  · subst hp
    simp only [List.isEmpty_nil, if_true, ss_cons, s_ret, e_and, e_isN, e_slot, List.getElem?_cons_zero, List.getElem?_cons_succ, slotR_some, rb_ok, wp_ok, List.foldl_nil, opt, tru_bl, rs_ok, sb_ret, wps_ret]
    have := fin (g1 ++ g2)
    simpa only [List.append_assoc] using this
  · have he : ps.isEmpty = false := by
      cases ps with
      | nil => exact absurd rfl hp
      | cons _ _ => rfl
    obtain ⟨lo1, f1⟩ := fold_none (lt := lt2) hp
    obtain ⟨hi1, f2⟩ := fold_none (lt := gt2) hp
    obtain ⟨q1, q2⟩ := least_is po f1
    obtain ⟨q3, q4⟩ := greatest_is po f2
    simp only [he, Bool.false_eq_true, if_false, ss_nil, wps_nxt, f1, f2, opt]
    simp only [s_if, e_or, e_cmp, e_slot, List.getElem?_cons_zero, List.getElem?_cons_succ, slotR_some, rb_ok, wp_ok, notin_frs q1, notin_frs q3, tru_bl, Bool.false_eq_true, if_false, rs_ok, ss_nil, wps_nxt]
    have w1 := z2 lo1 q1
    have w2 := z2 hi1 q3
    have mm : ∀ {p q : Int × Int} (H : Hh), Dr p → Dr q → binD .mul (.int p.1) (.int q.2) H = .ok (.int (p.1 * q.2)) H := fun H a b => mul_d a.a0 a.a1 (by have := b.b0; omega) b.b1
    have cp := comp_pure (ev := MX.E0 pg (n + 9)) (elt := .con (.int 1)) (own := [10, 11]) (tg := .tup (.cons (.name 10) (.cons (.name 11) .nil))) (cond := (.cons (.orE (.cmp .lt (.bin .mul (.slot 10) (.idx (.slot 7) (.con (.int (1))))) (.bin .mul (.idx (.slot 7) (.con (.int (0)))) (.slot 11))) (.cmp .gt (.bin .mul (.slot 10) (.idx (.slot 8) (.con (.int (1))))) (.bin .mul (.idx (.slot 8) (.con (.int (0)))) (.slot 11)))) .nil)) (env := [some (.ref r), x1, some (.tup (ps.map fr)), x3, x4, x5, x6, some (fr lo1), some (fr hi1), none, none, none]) (wk := .tup (ps.map fr)) (xs := ps.map fr) (h := h6 ++ g1 ++ g2) (fun _ => none) rfl (by rw [List.length_map]; exact Nat.le_trans le3 (by decide)) (fun y hy acc => by
      obtain ⟨p, hp, rfl⟩ := List.mem_map.mp hy
      have w := z2 p hp
      have l1 := q2 p hp
      have l2 := q4 p hp
      simp only [lt2] at l1 l2
      rw [turn_eq rfl]
      simp only [cond_one, e_or, e_cmp, e_bin, e_slot, e_con, e_idx, wipeE, List.set, List.getElem?_cons_zero, List.getElem?_cons_succ, slotR_some, rb_ok, wp_ok, idx_tup0, idx_tup1, mm _ w w1, mm _ w1 w, mm _ w w2, mm _ w2 w, lt_int, gt_int, l1, l2, tru_bl, Bool.false_eq_true, if_false, nx_ok])
    have fz : ∀ xs : List D, xs.filterMap (fun _ => (none : Option D)) = [] := fun xs => by induction xs <;> simp_all
    rw [fz] at cp
    simp only [s_ret, e_cmp, e_comp, i_seq, e_lst, es_nil, e_slot, List.getElem?_cons_zero, List.getElem?_cons_succ, slotR_some, rb_ok, wp_ok, wkOf, List.length_nil, if_pos sz0]
    rw [cp]
    simp only [rb_ok, wp_ok, eq_nils, rs_ok, wps_ret]
    have := fin (g1 ++ g2 ++ [.lst []] ++ [.lst []])
    simpa only [List.append_assoc] using this
theorem sumsC {n r k : Nat} {h4 : Hh} {P : Po} {e1 e2 e3 e4 e5 e6 e7 e8 : Option D} (B4 : Bag r k h4) (hk : k + 100 < 10 ^ 9) (fin : ∀ h, Bag r (k + 40) h → Keep r h4 h → P.rt (.bl true) h) :
    wps (exSs (MX.E0 pg (n + 9)) (dropS 6 b30) [some (.ref r), e1, e2, e3, e4, e5, e6, e7, e8, none, none, none] h4) P := by
  rw [show dropS 6 b30 = takeT 1 (dropS 6 b30) (dropS 7 b30) from rfl]
  generalize ht : dropS 7 b30 = tl
  simp only [b30, dropS, takeT, ss_cons, wps_sb]
  simp only [s_asg, e_bt, es_cons, es_nil, e_comp, i_rng, e_call, e_slot, e_con, List.getElem?_cons_zero, slotR_some, rb_ok, wp_ok, wps_rs, wp_rb]
  refine wp_mono (throw B4 (by omega) (by decide) (by decide)) (fun v h5 z => ?_) fun _ _ z => z.elim
  obtain ⟨i, rfl, i0, i1, B5, K5, _⟩ := z
  have wr : wkRng (.int i) h5 = .ok (.rng 0 i.toNat) h5 := by
    simp only [wkRng]
    rw [if_pos ⟨by omega, by omega⟩]
  rw [wr]
  simp only [wp_ok]
  have hr5 := B5.lt
  have it : i.toNat < 6 := by omega
  refine wp_mono (comp_wp (wk := .rng 0 i.toNat) (h := h5) (E := fun _ _ => False) (Q := fun _ h' => ∃ ps : List (Int × Int), h'[h5.length]? = some (.lst (ps.map fr)) ∧ (∀ p ∈ ps, Dr p) ∧ ps.length ≤ 5 ∧ Bag r (k + 40) h' ∧ Keep r h5 h') rfl (fun ys acc h' => ∃ ps : List (Int × Int), acc = ps.map fr ∧ h'[h5.length]? = some (.lst (ps.map fr)) ∧ (∀ p ∈ ps, Dr p) ∧ ps.length + ys.length ≤ 5 ∧ Bag r (k + 1 + 6 * ps.length) h' ∧ Keep r h5 h') ?_ ?_ ?_ ?_) (fun v h6 z => ?_) fun _ _ z => z.elim
  · refine ⟨[], rfl, get_last, fun y hy => (by cases hy), ?_, (B5.app _).mono (by simp), Keep.app _⟩
    simp
    omega
  · rintro ys acc h' ⟨ps, rfl, z1, z2, z3, z4⟩
    have : 5 ≤ sizeLine := by decide
    exact ⟨z1, by rw [List.length_map]; omega⟩
  · rintro d ys acc h' ⟨ps, rfl, z1, z2, z3, z4, z5⟩
    rw [turn_eq rfl]
    simp only [List.length_cons] at z3
    simp only [cond_nil, rb_ok, wp_ok, if_true, e_call, es_cons, es_nil, e_slot, List.getElem?_cons_zero, slotR_some, wipeE, asgT, List.set]
    rw [wp_nx, wp_rb]
    have hlt : h5.length < h'.length := (List.getElem?_eq_some_iff.mp z1).1
    refine wp_mono (drawn_fraction (n := n + 5) z4 (by omega)) (fun v h7 z => ?_) fun _ _ z => z.elim
    obtain ⟨c, d, rfl, w1, w2, w3⟩ := z
    have w5 := w3.at_ h5.length _ (by omega) z1
    have hlt2 : h5.length < h7.length := (List.getElem?_eq_some_iff.mp w5).1
    refine ⟨w5, ps ++ [(c, d)], by simp, by simp [hlt2], ?_, by simp; omega, (w2.set (by omega)).mono (by simp; omega), ?_⟩
    · intro p hp
      rcases List.mem_append.mp hp with hp | hp
      · exact z2 p hp
      · rw [List.mem_singleton.mp hp]
        exact w1
    · refine ⟨?_, fun q o hq e => ?_⟩
      · rw [List.length_set]
        omega
      · have hq2 : q < h5.length := (List.getElem?_eq_some_iff.mp e).1
        rw [List.getElem?_set_ne (by omega)]
        exact w3.at_ q o hq (z5.at_ q o hq e)
  · rintro acc h' ⟨ps, rfl, z1, z2, z3, z4, z5⟩
    exact ⟨ps, z1, z2, by simpa using z3, z4.mono (by simp at z3; omega), z5⟩
  · obtain ⟨ps, z1, z2, z3, B6, K6⟩ := z
    have tp : btD .tuple [.ref h5.length] h6 = .ok (.tup (ps.map fr)) h6 := by simp only [btD, bt1, seqOf, z1]
    simp only [wp_ok, tp, wps_nxt, List.set, rs_ok]
    rw [← ht]
    refine sumsD z2 z3 fun g => ?_
    exact fin _ (B6.app _) ((K5.trans K6).trans (Keep.app _))
theorem sums {n r k : Nat} {h : Hh} (B : Bag r k h) (hk : k + 200 < 10 ^ 9) :
    wp (cf pg (n + 9) 30 [.ref r] h) (fun v h' => v = .bl true ∧ Bag r (k + 60) h' ∧ Keep r h h') (fun _ _ => False) := by
  rw [cf_eq (fd := d30) rfl rfl rfl]
  simp only [wp_ret]
  rw [show b30 = takeT 6 b30 (dropS 6 b30) from rfl]
  generalize ht : dropS 6 b30 = tl
  simp only [b30, takeT, ss_cons, s_par, e_call, e_bin, e_con, es_cons, es_nil, e_slot, wps_sb, wps_rs, wp_rb, wp_ok, List.map, List.length, List.replicate, List.append_nil, List.cons_append, List.nil_append, List.getElem?_cons_zero, slotR_some]
  refine wp_mono (number B (by omega)) (fun v h1 z => ?_) fun _ _ z => z
  obtain ⟨a, rfl, a0, a1, B1, K1⟩ := z
  refine wp_mono (number B1 (by omega)) (fun v h2 z => ?_) fun _ _ z => z
  obtain ⟨b', rfl, b0', b1', B2, K2⟩ := z
  simp only [add_int, wp_ok, wps_nxt, List.set]
  generalize hb : 1 + b' = b
  have b0 : 1 ≤ b := by omega
  have pp : (10 : Int) ^ 41 + 1 < 10 ^ 42 := by decide
  have b1 : b < 10 ^ 42 := by omega
  have qq : (10 : Int) ^ 42 < 10 ^ 90 := by decide
  have K02 := K1.trans K2
  have sb : Sm b := sm_of (by omega) (by omega)
  have m1 : ∀ H, binD .mul (.int 3) (.int a) H = .ok (.int (3 * a)) H := fun H => mul_d (by decide) (by decide) a0 (by omega)
  have m2 : ∀ H, binD .mul (.int 3) (.int b) H = .ok (.int (3 * b)) H := fun H => mul_d (by decide) (by decide) (by omega) (by omega)
  simp only [s_if, e_or, e_cmp, e_call, es_cons, es_nil, e_slot, e_con, e_bin, List.getElem?_cons_zero, List.getElem?_cons_succ, slotR_some, rb_ok, wp_ok, make_ok a0 b0 sb, lowest a0 b0 sb, m1, m2, make3 a0 b0 b1, ne_fr, decide_true, Bool.and_self, Bool.not_true, tru_bl, Bool.false_eq_true, if_false, rs_ok, ss_nil, wps_nxt]
  simp only [s_par, e_call, es_cons, es_nil, e_slot, List.getElem?_cons_zero, slotR_some, rb_ok, wp_ok, wps_rs, wps_sb, wp_rb, wp_ok]
  refine wp_mono (drawn_fraction (n := n + 5) B2 (by omega)) (fun v h3 z => ?_) fun _ _ z => z
  obtain ⟨c1, d1, rfl, x, B3, K3⟩ := z
  refine wp_mono (drawn_fraction (n := n + 5) B3 (by omega)) (fun v h4 z => ?_) fun _ _ z => z
  obtain ⟨c2, d2, rfl, y, B4, K4⟩ := z
  have K04 := (K02.trans K3).trans K4
  simp only [wps_nxt, List.set]
  have x0 := x.a0; have x1 := x.a1; have x2 := x.b0; have x3 := x.b1
  have y0 := y.a0; have y1 := y.a1; have y2 := y.b0; have y3 := y.b1
  have m3 : ∀ H, binD .mul (.int c1) (.int c2) H = .ok (.int (c1 * c2)) H := fun H => mul_d x0 x1 y0 y1
  have m4 : ∀ H, binD .mul (.int d1) (.int d2) H = .ok (.int (d1 * d2)) H := fun H => mul_d (by omega) x3 (by omega) y3
  have m5 : ∀ H, binD .mul (.int c1) (.int d2) H = .ok (.int (c1 * d2)) H := fun H => mul_d x0 x1 (by omega) y3
  have m6 : ∀ H, binD .mul (.int c2) (.int d1) H = .ok (.int (c2 * d1)) H := fun H => mul_d y0 y1 (by omega) x3
  have p0 : 0 ≤ c1 * c2 := Int.mul_nonneg x.a0 y.a0
  have p1 : 1 ≤ d1 * d2 := by
    have := Int.mul_pos (show 0 < d1 by omega) (show 0 < d2 by omega)
    omega
  have p2 : d1 * d2 < 10 ^ 90 := by
    have h1 : d1 * d2 ≤ 10 ^ 42 * 10 ^ 42 := Int.mul_le_mul (Int.le_of_lt x3) (Int.le_of_lt y3) (by omega) (by decide)
    have h2 : (10 : Int) ^ 42 * 10 ^ 42 < 10 ^ 90 := by decide
    omega
  have fp := fun H => fraction_product (n := n + 4) (h := H) x y
  have lo := fun H => lowest (n := n + 7) (h := H) p0 p1 (sm_of (by omega) p2)
  have cm := fun H => compared' (n := n + 4) (h := H) x y
  simp only [s_if, e_cmp, e_call, es_cons, es_nil, e_slot, e_con, e_bin, e_idx, idx_tup0, idx_tup1, List.getElem?_cons_zero, List.getElem?_cons_succ, slotR_some, rb_ok, wp_ok, m3, m4, fp, lo, ne_fr, decide_true, Bool.and_self, Bool.not_true, tru_bl, Bool.false_eq_true, if_false, rs_ok, ss_nil, wps_sb, wps_nxt]
  simp only [s_asg, e_bin, e_idx, e_slot, e_con, idx_tup0, idx_tup1, List.getElem?_cons_zero, List.getElem?_cons_succ, slotR_some, rb_ok, wp_ok, m5, m6, sub_int, rs_ok, wps_nxt, List.set]
  have wy : ∀ (ev : Ev) (env : MX.Env) H, env[1]? = some (some (.int (c1 * d2 - c2 * d1))) → evE ev (.ife (.cmp .eq (.slot 1) (.con (.int (0)))) (.con (.str (Str.ofString "equal"))) (.ife (.cmp .lt (.slot 1) (.con (.int (0)))) (.con (.str (Str.ofString "less"))) (.con (.str (Str.ofString "greater"))))) env H = .ok (.str (Str.ofString (way c1 d1 c2 d2))) H := by
    intro ev env H he
    simp only [e_ife, e_cmp, e_slot, e_con, he, slotR_some, rb_ok, wp_ok, eq_int, lt_int, tru_bl, decide_eq_true_eq]
    unfold way
    by_cases z1 : c1 * d2 - c2 * d1 = 0
    · rw [if_pos z1, if_pos z1]
    · rw [if_neg z1, if_neg z1]
      by_cases z2 : c1 * d2 - c2 * d1 < 0
      · rw [if_pos z2, if_pos z2]
      · rw [if_neg z2, if_neg z2]
  simp only [s_if, e_cmp, e_call, es_cons, es_nil, e_slot, List.getElem?_cons_zero, List.getElem?_cons_succ, slotR_some, rb_ok, wp_ok, cm]
  rw [wy _ _ _ rfl]
  simp only [rb_ok, wp_ok, ne_str (tx_of _), tru_bl, Bool.false_eq_true, if_false, rs_ok, ss_nil, wps_nxt]
  rw [← ht]
  exact sumsC B4 (by omega) fun h5 B5 K5 => ⟨rfl, B5.mono (by omega), K04.trans K5⟩
end K01
namespace K01
open PySem L2 MX
/-! ### what is refused -/
theorem met_num' {n : Nat} {m : M D} {h h' : Hh} {d : D} {x : Str} (e : m h = .exc ⟨1, [(0, d)]⟩ h') (r : btD .repr [d] h' = .ok (.str x) h') (z : x.length ≤ 1000000) : (mkCl pg (tabs pg n)).callL 23 m h = .ok (.str (Str.ofString "number " ++ x)) h' := by
  have l : (Str.ofString "number ").length + x.length ≤ sizeLine := by
    have : (Str.ofString "number ").length = 7 := rfl
    have : 1000007 ≤ sizeLine := by decide
    omega
  rw [met_eq]
  simp [b23, exS, exSs, exH, evE, evEs, liftE, e, pg, sub, M.pure, M.bind, M.opt, List.lookup, r, binD, addD, l]
def Odd (r : Nat) (h : Hh) (d : D) : Prop := ∀ h', Keep r h h' → Asks h' d ∧ isFrs d = false
/-- found once more -/
theorem refD {n r j : Nat} {hs : Hh} {P : Po} {x1 x2 x3 : Option D} {d : D} (O : Odd j hs d) (fin : ∀ h, Keep j hs h → P.rt (.bl true) h) :
    wps (exSs (MX.E0 pg (n + 9)) (dropS 7 b31) [some (.ref r), x1, x2, x3, some d] hs) P := by
  have sz1 : (1 : Nat) ≤ sizeLine := by decide
  have c1 : ∀ (env : MX.Env) H, env[4]? = some (some d) → Keep j hs H → ∃ g, evE (MX.E0 pg (n + 9)) (.lam 23 (.call 15 (.cons (.slot 4) .nil))) env H = .ok nf (H ++ g) := by
    intro env H he k
    obtain ⟨A, b⟩ := O H k
    obtain ⟨g, hg⟩ := least_bad (n := n + 2) A b
    refine ⟨g, ?_⟩
    rw [e_lam (n := n + 7)]
    refine met_none ?_
    simp [he, hg]
  have c2 : ∀ (env : MX.Env) H, env[4]? = some (some d) → Keep j hs H → ∃ g, evE (MX.E0 pg (n + 9)) (.lam 23 (.call 16 (.cons (.slot 4) .nil))) env H = .ok nf (H ++ g) := by
    intro env H he k
    obtain ⟨A, b⟩ := O H k
    obtain ⟨g, hg⟩ := greatest_bad (n := n + 2) A b
    refine ⟨g, ?_⟩
    rw [e_lam (n := n + 7)]
    refine met_none ?_
    simp [he, hg]
  obtain ⟨ga, ea⟩ := c1 [some (.ref r), x1, x2, x3, some d] hs rfl (Keep.refl _ _)
  have F1 : Fd hs j (hs ++ ga).length [nf] ((hs ++ ga) ++ [.lst [nf]]) := Fd.mk1 (Keep.app _)
  generalize hq : (hs ++ ga).length = q at F1
  obtain ⟨gb, eb⟩ := c2 [some (.ref r), x1, x2, some (.ref q), some d] _ rfl F1.k
  have F2 := F1.step (d := nf) gb
  simp only [b31, dropS, ss_cons, s_asg, e_lst, es_cons, es_nil, ea, rb_ok, List.length_cons, List.length_nil, Nat.zero_add, if_pos sz1, rs_ok, sb_nxt, List.set, hq]
  rw [app_call F1 (by simp) rfl eb]
  simp only [sb_nxt]
  have k4 := F2.k
  have e4 := F2.e
  generalize hH4 : List.set _ q _ = H4 at F2 k4 e4 ⊢
  have hq4 : q < H4.length := (List.getElem?_eq_some_iff.mp e4).1
  have mu : binD .mul (.ref H4.length) (.int 2) (H4 ++ [.lst [nf]]) = .ok (.ref (H4.length + 1)) (H4 ++ [.lst [nf]] ++ [.lst [nf, nf]]) := by
    have e1 : (H4 ++ [MO.lst [nf]])[H4.length]? = some (.lst [nf]) := get_last
    have e2 : (0 : Int) ≤ 2 ∧ (2 : Int) < 1000000 ∧ [nf].length * (2 : Int).toNat ≤ sizeLine := ⟨by decide, by decide, (show 2 ≤ sizeLine by decide)⟩
    simp only [binD, mulD, e1, if_pos e2]
    simp only [MX.alloc, List.length_append]
    rfl
  have k5 : Keep j hs (H4 ++ [.lst [nf]] ++ [.lst [nf, nf]]) := (k4.trans (Keep.app _)).trans (Keep.app _)
  have ne4 : cmpD .eq (.ref q) (.ref (H4.length + 1)) (H4 ++ [.lst [nf]] ++ [.lst [nf, nf]]) = .ok (.bl true) (H4 ++ [.lst [nf]] ++ [.lst [nf, nf]]) := by
    refine eq_strs (xs := [Str.ofString "no fraction", Str.ofString "no fraction"]) (fun x hx => ?_) ?_ ?_
    · simp only [List.mem_cons, List.not_mem_nil, or_false, or_self] at hx
      rw [hx]
      exact tx_nf
    · rw [List.append_assoc, List.getElem?_append_left hq4]
      exact e4
    · simp
  simp only [s_ret, e_cmp, e_slot, e_bin, e_lst, e_con, es_cons, es_nil, List.getElem?_cons_zero, List.getElem?_cons_succ, slotR_some, rb_ok, List.length_cons, List.length_nil, Nat.zero_add, if_pos sz1, mu, ne4, rs_ok, sb_ret, wps_ret]
  exact fin _ k5
theorem odd_mk {r : Nat} {h : Hh} {d : D} (f : isFrs d = false) (w : ∀ h', Keep r h h' → Wd h' d ∧ ∀ xs, d = .tup xs → xs.length ≤ 1000 ∧ ∀ x ∈ xs, Ask h' x) : Odd r h d := fun h' k => ⟨⟨(w h' k).1, fun xs e => ⟨((w h' k).2 xs e).1, fun x hx acc => ((w (h' ++ acc) (k.trans (Keep.app _))).2 xs e).2 x hx⟩⟩, f⟩
theorem ask_int {h : Hh} {i : Int} : Ask h (.int i) := ⟨trivial, fun xs e => by cases e⟩
theorem keep_up {r : Nat} {h h' : Hh} (k : Keep h.length h h') : Keep r h h' := ⟨k.len, fun q o _ e => k.at_ q o (Nat.ne_of_lt (List.getElem?_eq_some_iff.mp e).1) e⟩
/-- the odd ones -/
theorem refC {n r k : Nat} {hs : Hh} {P : Po} {x1 x2 x3 x4 : Option D} (B : Bag r k hs) (hk : k + 10 < 10 ^ 9) (fin : ∀ h, Bag r (k + 1) h → Keep r hs h → P.rt (.bl true) h) :
    wps (exSs (MX.E0 pg (n + 9)) (dropS 6 b31) [some (.ref r), x1, x2, x3, x4] hs) P := by
  rw [show dropS 6 b31 = takeT 1 (dropS 6 b31) (dropS 7 b31) from rfl]
  generalize ht : dropS 7 b31 = tl
  have sz2 : (2 : Nat) ≤ sizeLine := by decide
  have sz1 : (1 : Nat) ≤ sizeLine := by decide
  have sz9 : (9 : Nat) ≤ sizeLine := by decide
  simp only [b31, dropS, takeT, ss_cons, wps_sb, s_asg, wps_rs, e_call, es_cons, es_nil, e_slot, e_lst, e_tup, e_edct, e_con, List.getElem?_cons_zero, slotR_some, rb_ok, wp_rb, wp_ok, List.length_cons, List.length_nil, Nat.zero_add, Nat.reduceAdd, if_pos sz1, if_pos sz2]
  generalize hL : [D.non, D.tup [D.int 1, D.int 2], D.ref hs.length, D.str (Str.ofString "12"), D.ref (hs ++ [MO.lst [D.tup [D.int 1, D.int 2]]]).length, D.int 3, D.tup [D.tup [D.int 1, D.int 2], D.non], D.tup [D.tup [D.int 2, D.int 4]], D.tup [D.tup [D.int 1, D.int 2], D.ref (hs ++ [MO.lst [D.tup [D.int 1, D.int 2]]] ++ [MO.dct []]).length]] = L
  have l1 : L.length = 9 := by rw [← hL]; rfl
  simp only [if_pos sz9, wp_ok]
  have hr := B.lt
  generalize hH : hs ++ [MO.lst [D.tup [D.int 1, D.int 2]]] ++ [MO.dct []] ++ [MO.lst [D.int 1, D.int 2]] = H
  have B1 : Bag r k H := by rw [← hH]; exact ((B.app _).app _).app _
  have K1 : Keep r hs H := by rw [← hH]; exact ((Keep.app _).trans (Keep.app _)).trans (Keep.app _)
  refine wp_mono (pick (n := n + 7) (B1.app [MO.lst L]) (by omega) get_last (by have := B1.lt; omega) (by omega) (by omega)) (fun v h1 z => ?_) fun _ _ z => z.elim
  obtain ⟨hv, B2, K2, _⟩ := z
  simp only [wps_nxt, List.set]
  rw [← ht]
  have u1 : h1[hs.length]? = some (.lst [.tup [.int 1, .int 2]]) := K2.at_ _ _ (by omega) (by rw [← hH]; simp)
  have u2 : h1[(hs ++ [MO.lst [D.tup [D.int 1, D.int 2]]]).length]? = some (.dct []) := K2.at_ _ _ (by simp; omega) (by rw [← hH]; simp)
  have u3 : h1[(hs ++ [MO.lst [D.tup [D.int 1, D.int 2]]] ++ [MO.dct []]).length]? = some (.lst [.int 1, .int 2]) := K2.at_ _ _ (by simp; omega) (by rw [← hH]; simp)
  have K3 : Keep r hs h1 := (K1.trans (Keep.app _)).trans K2
  have lt1 := Nat.ne_of_lt (List.getElem?_eq_some_iff.mp u1).1
  have lt2 := Nat.ne_of_lt (List.getElem?_eq_some_iff.mp u2).1
  have lt3 := Nat.ne_of_lt (List.getElem?_eq_some_iff.mp u3).1
  have O : Odd h1.length h1 v := by
    rw [← hL] at hv
    simp only [List.mem_cons, List.not_mem_nil, or_false] at hv
    rcases hv with rfl | rfl | rfl | rfl | rfl | rfl | rfl | rfl | rfl
    · exact odd_mk rfl fun h' k => ⟨trivial, fun xs e => by cases e⟩
    · exact odd_mk rfl fun h' k => ⟨trivial, fun xs e => by
        cases e
        refine ⟨by decide, fun x hx => ?_⟩
        simp only [List.mem_cons, List.not_mem_nil, or_false] at hx
        rcases hx with rfl | rfl <;> exact ask_int⟩
    · exact odd_mk rfl fun h' k => ⟨.inl ⟨_, k.at_ _ _ lt1 u1⟩, fun xs e => by cases e⟩
    · exact odd_mk rfl fun h' k => ⟨trivial, fun xs e => by cases e⟩
    · exact odd_mk rfl fun h' k => ⟨.inr ⟨_, k.at_ _ _ lt2 u2⟩, fun xs e => by cases e⟩
    · exact odd_mk rfl fun h' k => ⟨trivial, fun xs e => by cases e⟩
    · exact odd_mk (by decide +kernel) fun h' k => ⟨trivial, fun xs e => by
        cases e
        refine ⟨by decide, fun x hx => ?_⟩
        simp only [List.mem_cons, List.not_mem_nil, or_false] at hx
        rcases hx with rfl | rfl
        · exact ask12
        · exact ⟨trivial, fun xs e => by cases e⟩⟩
    · exact odd_mk (by decide +kernel) fun h' k => ⟨trivial, fun xs e => by
        cases e
        refine ⟨by decide, fun x hx => ?_⟩
        rw [List.mem_singleton.mp hx]
        exact ask_fr (by decide) (by decide)⟩
    · exact odd_mk (by simp [isFrs, isFr]) fun h' k => ⟨trivial, fun xs e => by
        cases e
        refine ⟨by simp, fun x hx => ?_⟩
        simp only [List.mem_cons, List.not_mem_nil, or_false] at hx
        rcases hx with rfl | rfl
        · exact ask12
        · exact ⟨.inl ⟨_, k.at_ _ _ lt3 u3⟩, fun xs e => by cases e⟩⟩
  refine refD O fun h2 K4 => fin _ ?_ (K3.trans (keep_up K4))
  obtain ⟨b1, b2, b3, e, w⟩ := B2.ex
  exact ⟨b1, b2, b3, K4.at_ _ _ (Nat.ne_of_lt B2.lt) e, w⟩
end K01
namespace K01
open PySem L2 MX
abbrev tnum (p : PyData) : Str := Str.ofString "number " ++ p.shown
theorem bag_up {r k : Nat} {h h' : Hh} (B : Bag r k h) (K : Keep h.length h h') : Bag r k h' := by
  obtain ⟨b1, b2, b3, e, w⟩ := B.ex
  exact ⟨b1, b2, b3, K.at_ _ _ (Nat.ne_of_lt B.lt) e, w⟩
theorem refB {n r k : Nat} {hs : Hh} {P : Po} {x3 x4 : Option D} {v1 v2 : D} (B : Bag r k hs) (hk : k + 10 < 10 ^ 9) (V1 : Val hs.length hs v1) (V2 : Val hs.length hs v2) (f1 : from0 0 v1 = false) (f2 : from0 1 v2 = false) (fin : ∀ h, Bag r (k + 1) h → Keep r hs h → P.rt (.bl true) h) :
    wps (exSs (MX.E0 pg (n + 9)) (dropS 2 b31) [some (.ref r), some v1, some v2, x3, x4] hs) P := by
  rw [show dropS 2 b31 = takeT 4 (dropS 2 b31) (dropS 6 b31) from rfl]
  generalize ht : dropS 6 b31 = tl
  obtain ⟨p1, g1, r1, z1, w1⟩ := id V1
  obtain ⟨p2, g2, r2, z2, w2⟩ := id V2
  have s1 := good_show p1 g1
  have s2 := good_show p2 g2
  have sz1 : (1 : Nat) ≤ sizeLine := by decide
  have big : 1000000 + 7 ≤ sizeLine := by decide
  have rep1 : ∀ H, Keep hs.length hs H → btD .repr [v1] H = .ok (.str p1.shown) H := fun H K => bt_repr (w1 H K).2.2 g1 r1 (by omega)
  have rep2 : ∀ H, Keep hs.length hs H → btD .repr [v2] H = .ok (.str p2.shown) H := fun H K => bt_repr (w2 H K).2.2 g2 r2 (by omega)
  have l1 : p1.shown.length ≤ 1000000 := Nat.le_trans s1.2.1 z1
  have l2 : p2.shown.length ≤ 1000000 := Nat.le_trans s2.2.1 z2
  have t1 : tx (tnum p1) = true := by rw [tx_app, tx_of, s1.1]; rfl
  have t2 : tx (tnum p2) = true := by rw [tx_app, tx_of, s2.1]; rfl
  have c1 : ∀ (env : MX.Env) H, env[1]? = some (some v1) → env[2]? = some (some v2) → Keep hs.length hs H → evE (MX.E0 pg (n + 9)) (.lam 23 (.call 9 (.cons (.slot 1) (.cons (.slot 2) .nil)))) env H = .ok (.str (tnum p1)) (H ++ []) := by
    intro env H he1 he2 K
    rw [e_lam (n := n + 7), List.append_nil]
    refine met_num' ?_ (rep1 H K) l1
    simp only [e_call, es_cons, es_nil, e_slot, he1, he2, slotR_some, rb_ok, make_bad1 (w1 H K).1.1 f1]
  have c2 : ∀ (env : MX.Env) H, env[1]? = some (some v1) → Keep hs.length hs H → evE (MX.E0 pg (n + 9)) (.lam 23 (.call 9 (.cons (.slot 1) (.cons (.con (.int (1))) .nil)))) env H = .ok (.str (tnum p1)) (H ++ []) := by
    intro env H he1 K
    rw [e_lam (n := n + 7), List.append_nil]
    refine met_num' ?_ (rep1 H K) l1
    simp only [e_call, es_cons, es_nil, e_slot, e_con, he1, slotR_some, rb_ok, make_bad1 (w1 H K).1.1 f1]
  have c3 : ∀ (env : MX.Env) H, env[2]? = some (some v2) → Keep hs.length hs H → evE (MX.E0 pg (n + 9)) (.lam 23 (.call 9 (.cons (.con (.int (1))) (.cons (.slot 2) .nil)))) env H = .ok (.str (tnum p2)) (H ++ []) := by
    intro env H he2 K
    rw [e_lam (n := n + 7), List.append_nil]
    refine met_num' ?_ (rep2 H K) l2
    simp only [e_call, es_cons, es_nil, e_slot, e_con, he2, slotR_some, rb_ok, make_bad2 (d := .int 1) trivial (w2 H K).1.1 rfl f2]
  have ea := c1 [some (.ref r), some v1, some v2, x3, x4] hs rfl rfl (Keep.refl _ _)
  have F1 : Fd hs hs.length (hs ++ []).length [.str (tnum p1)] ((hs ++ []) ++ [.lst [.str (tnum p1)]]) := Fd.mk1 (Keep.app _)
  generalize hq : (hs ++ [] : Hh).length = q at F1
  have eb := c2 [some (.ref r), some v1, some v2, some (.ref q), x4] _ rfl F1.k
  have F2 := F1.step (d := .str (tnum p1)) []
  have ec := c3 [some (.ref r), some v1, some v2, some (.ref q), x4] _ rfl F2.k
  have F3 := F2.step (d := .str (tnum p2)) []
  simp only [b31, dropS, takeT, ss_cons, wps_sb, s_asg, e_lst, es_cons, es_nil, ea, rb_ok, List.length_cons, List.length_nil, Nat.zero_add, if_pos sz1, rs_ok, wps_nxt, List.set, hq]
  rw [app_call F1 (by simp) rfl eb]
  simp only [wps_nxt]
  rw [app_call F2 (by simp) rfl ec]
  simp only [wps_nxt]
  have k4 := F3.k
  have e4 := F3.e
  generalize hH4 : List.set _ q _ = H4 at F3 k4 e4 ⊢
  have hq4 : q < H4.length := (List.getElem?_eq_some_iff.mp e4).1
  have ad : ∀ p : PyData, p.shown.length ≤ 1000000 → ∀ H, binD .add (.str (Str.ofString "number ")) (.str p.shown) H = .ok (.str (tnum p)) H := fun p l H => by
    have : (Str.ofString "number ").length + p.shown.length ≤ sizeLine := by
      have : (Str.ofString "number ").length = 7 := rfl
      omega
    simp only [binD, addD, if_pos this, M.pure]
  have mu : binD .mul (.ref H4.length) (.int 2) (H4 ++ [.lst [.str (tnum p1)]]) = .ok (.ref (H4.length + 1)) (H4 ++ [.lst [.str (tnum p1)]] ++ [.lst [.str (tnum p1), .str (tnum p1)]]) := by
    have e1 : (H4 ++ [MO.lst [.str (tnum p1)]])[H4.length]? = some (.lst [.str (tnum p1)]) := get_last
    have e2 : (0 : Int) ≤ 2 ∧ (2 : Int) < 1000000 ∧ [D.str (tnum p1)].length * (2 : Int).toNat ≤ sizeLine := ⟨by decide, by decide, (show 2 ≤ sizeLine by decide)⟩
    simp only [binD, mulD, e1, if_pos e2]
    simp only [MX.alloc, List.length_append]
    rfl
  generalize hH5 : H4 ++ [MO.lst [.str (tnum p1)]] ++ [.lst [.str (tnum p1), .str (tnum p1)]] = H5 at mu
  have K5 : Keep hs.length hs H5 := by rw [← hH5]; exact (k4.trans (Keep.app _)).trans (Keep.app _)
  have K4' : Keep hs.length hs (H4) := k4
  have n5 : H5.length = H4.length + 2 := by rw [← hH5]; simp
  have ad2 : binD .add (.ref (H4.length + 1)) (.ref H5.length) (H5 ++ [.lst [.str (tnum p2)]]) = .ok (.ref (H5 ++ [MO.lst [.str (tnum p2)]]).length) (H5 ++ [.lst [.str (tnum p2)]] ++ [.lst [.str (tnum p1), .str (tnum p1), .str (tnum p2)]]) := by
    have e1 : (H5 ++ [MO.lst [.str (tnum p2)]])[H4.length + 1]? = some (.lst [.str (tnum p1), .str (tnum p1)]) := by
      rw [List.getElem?_append_left (by omega), ← hH5]
      simp
    have e2 : (H5 ++ [MO.lst [.str (tnum p2)]])[H5.length]? = some (.lst [.str (tnum p2)]) := get_last
    have e3 : [D.str (tnum p1), .str (tnum p1)].length + [D.str (tnum p2)].length ≤ sizeLine := (show 3 ≤ sizeLine by decide)
    simp only [binD, addD, e1, e2, if_pos e3]
    rfl
  have K6 : Keep hs.length hs (H5 ++ [.lst [.str (tnum p2)]] ++ [.lst [.str (tnum p1), .str (tnum p1), .str (tnum p2)]]) := (K5.trans (Keep.app _)).trans (Keep.app _)
  have ne4 : cmpD .ne (.ref q) (.ref (H5 ++ [MO.lst [.str (tnum p2)]]).length) (H5 ++ [.lst [.str (tnum p2)]] ++ [.lst [.str (tnum p1), .str (tnum p1), .str (tnum p2)]]) = .ok (.bl false) (H5 ++ [.lst [.str (tnum p2)]] ++ [.lst [.str (tnum p1), .str (tnum p1), .str (tnum p2)]]) := by
    refine ne_strs (xs := [tnum p1, tnum p1, tnum p2]) (fun x hx => ?_) ?_ get_last
    · simp only [List.mem_cons, List.not_mem_nil, or_false] at hx
      rcases hx with rfl | rfl | rfl
      · exact t1
      · exact t1
      · exact t2
    · rw [List.getElem?_append_left (by simp; omega), List.getElem?_append_left (by omega), ← hH5, List.append_assoc, List.getElem?_append_left hq4]
      exact e4
  simp only [s_if, e_cmp, e_bin, e_lst, e_con, e_bt, es_cons, es_nil, e_slot, List.getElem?_cons_zero, List.getElem?_cons_succ, slotR_some, rb_ok, rep1 _ k4, ad _ l1, List.length_cons, List.length_nil, Nat.zero_add, if_pos sz1, mu]
  simp only [rep2 _ K5, rb_ok, ad _ l2, List.length_cons, List.length_nil, Nat.zero_add, if_pos sz1, ad2, ne4, tru_bl, rs_ok, Bool.false_eq_true, if_false, ss_nil, wps_nxt]
  rw [← ht]
  exact refC (bag_up B K6) hk fun h1 B1 K1 => fin _ B1 ((keep_up K6).trans K1)
theorem refused {n r k : Nat} {h : Hh} (B : Bag r k h) (hk : k + 100 < 10 ^ 9) :
    wp (cf pg (n + 9) 31 [.ref r] h) (fun v h' => v = .bl true ∧ Bag r (k + 3) h' ∧ Keep r h h') (fun _ _ => False) := by
  rw [cf_eq (fd := d31) rfl rfl rfl]
  rw [show (d31).body = takeT 2 b31 (dropS 2 b31) from rfl]
  generalize ht : dropS 2 b31 = tl
  have sz0 : (0 : Nat) ≤ sizeLine := by decide
  have sz8 : (8 : Nat) ≤ sizeLine := by decide
  have pw : ∀ H, binD .pow (.int 10) (.int 39) H = .ok (.int (10 ^ 39)) H := fun H => pow_int (by decide)
  simp only [wp_ret, b31, takeT, ss_cons, wps_sb, s_asg, wps_rs, e_call, es_cons, es_nil, e_slot, e_lst, e_tup, e_edct, e_con, e_neg, e_bin, pw, List.map, List.length, List.replicate, List.append_nil, List.cons_append, List.nil_append, List.getElem?_cons_zero, slotR_some, rb_ok, wp_rb, wp_ok, List.length_cons, List.length_nil, if_pos sz0]
  simp only [Nat.zero_add, Nat.reduceAdd, if_pos sz8, wp_ok]
  generalize hL1 : [D.int (-1), D.non, D.bl true, D.str (Str.ofString "1"), D.tup [], D.ref h.length, D.int (-(10 ^ 39)), D.ref (h ++ [MO.lst []]).length] = L1
  have l1 : L1.length = 8 := by rw [← hL1]; rfl
  have hr := B.lt
  generalize hH : h ++ [MO.lst []] ++ [MO.dct []] = H
  have B1 : Bag r k H := by rw [← hH]; exact (B.app _).app _
  have K1 : Keep r h H := by rw [← hH]; exact (Keep.app _).trans (Keep.app _)
  refine wp_mono (pick (n := n + 7) (B1.app [MO.lst L1]) (by omega) get_last (by have := B1.lt; omega) (by omega) (by omega)) (fun v1 h1 z => ?_) fun _ _ z => z.elim
  obtain ⟨hv1, B2, K2, _⟩ := z
  simp only [wps_nxt, List.set, List.getElem?_cons_zero, slotR_some, wp_ok]
  generalize hL2 : [D.int 0, D.int (-1), D.non, D.bl true, D.str (Str.ofString "1"), D.tup [], D.ref h1.length, D.ref (h1 ++ [MO.lst []]).length] = L2
  have l2 : L2.length = 8 := by rw [← hL2]; rfl
  generalize hG : h1 ++ [MO.lst []] ++ [MO.dct []] = G
  have B3 : Bag r (k + 1) G := by rw [← hG]; exact (B2.app _).app _
  have K3 : Keep r h1 G := by rw [← hG]; exact (Keep.app _).trans (Keep.app _)
  refine wp_mono (pick (n := n + 7) (B3.app [MO.lst L2]) (by omega) get_last (by have := B3.lt; omega) (by omega) (by omega)) (fun v2 h2 z => ?_) fun _ _ z => z.elim
  obtain ⟨hv2, B4, K4, _⟩ := z
  rw [← ht]
  have hr1 := B2.lt
  have f0 : ∀ i : Int, i.natAbs ≤ 3 → Flat (.int i) := fun i h => Nat.lt_of_le_of_lt h (by decide +kernel)
  have a1 : h2[h.length]? = some (.lst []) := K4.at_ _ _ (by omega) ((K3.trans (Keep.app _)).at_ _ _ (by omega) (K2.at_ _ _ (by omega) (by rw [← hH]; simp)))
  have a2 : h2[(h ++ [MO.lst []]).length]? = some (.dct []) := K4.at_ _ _ (by simp; omega) ((K3.trans (Keep.app _)).at_ _ _ (by simp; omega) (K2.at_ _ _ (by simp; omega) (by rw [← hH]; simp)))
  have a3 : h2[h1.length]? = some (.lst []) := K4.at_ _ _ (by omega) (by rw [← hG]; simp)
  have a4 : h2[(h1 ++ [MO.lst []]).length]? = some (.dct []) := K4.at_ _ _ (by simp; omega) (by rw [← hG]; simp)
  have ne : ∀ {q : Nat} {o : MO}, h2[q]? = some o → q ≠ h2.length := fun e => Nat.ne_of_lt (List.getElem?_eq_some_iff.mp e).1
  have V1 : Val h2.length h2 v1 ∧ from0 0 v1 = false := by
    rw [← hL1] at hv1
    simp only [List.mem_cons, List.not_mem_nil, or_false] at hv1
    rcases hv1 with rfl | rfl | rfl | rfl | rfl | rfl | rfl | rfl
    · exact ⟨val_flat (f0 _ (by decide)), rfl⟩
    · exact ⟨val_flat trivial, rfl⟩
    · exact ⟨val_flat trivial, rfl⟩
    · exact ⟨val_flat ⟨by decide, tx_of _⟩, rfl⟩
    · exact ⟨val_tup (fun x hx => by cases hx) (by decide), rfl⟩
    · exact ⟨val_lst a1 (ne a1) (fun x hx => by cases hx) (by decide), rfl⟩
    · exact ⟨val_flat (show (-(10 ^ 39) : Int).natAbs < 10 ^ 50 by decide +kernel), rfl⟩
    · exact ⟨val_dct a2 (ne a2), rfl⟩
  have V2 : Val h2.length h2 v2 ∧ from0 1 v2 = false := by
    rw [← hL2] at hv2
    simp only [List.mem_cons, List.not_mem_nil, or_false] at hv2
    rcases hv2 with rfl | rfl | rfl | rfl | rfl | rfl | rfl | rfl
    · exact ⟨val_flat (f0 _ (by decide)), rfl⟩
    · exact ⟨val_flat (f0 _ (by decide)), rfl⟩
    · exact ⟨val_flat trivial, rfl⟩
    · exact ⟨val_flat trivial, rfl⟩
    · exact ⟨val_flat ⟨by decide, tx_of _⟩, rfl⟩
    · exact ⟨val_tup (fun x hx => by cases hx) (by decide), rfl⟩
    · exact ⟨val_lst a3 (ne a3) (fun x hx => by cases hx) (by decide), rfl⟩
    · exact ⟨val_dct a4 (ne a4), rfl⟩
  exact refB B4 (by omega) V1.1 V2.1 V1.2 V2.2 fun h3 B5 K5 => ⟨rfl, B5, ((((K1.trans (Keep.app _)).trans K2).trans (K3.trans (Keep.app _))).trans K4).trans K5⟩
end K01
namespace K01
open PySem L2 MX
/-! ### the law -/
theorem idx_tup2 {x y z : D} {xs : List D} {h : Hh} : idxD (.tup (x :: y :: z :: xs)) (.int 2) h = .ok z h := by
  simp only [idxD, seqOf, L2.atI, L2.ixN]
  have : (2 : Int) < ((xs.length : Int) + 1 + 1 + 1) := by omega
  simp [this]
theorem least_of {n : Nat} {h : Hh} (ps : List (Int × Int)) (m : Int × Int) (w : ps.length ≤ 1000) (sp : ps.all (fun p => decide (0 ≤ p.1) && decide (p.1 < 10 ^ 90) && decide (0 ≤ p.2) && decide (p.2 < 10 ^ 90) && isFr (fr p)) = true) (e : ps.foldl (keep1 lt2) none = some m) {xs : List D} (ex : xs = ps.map fr) :
    ∃ g, cf pg (n + 4) 15 [.tup xs] h = .ok (fr m) (h ++ g) := by
  subst ex
  have sp' : ∀ p ∈ ps, ((((0 ≤ p.1 ∧ p.1 < 10 ^ 90) ∧ 0 ≤ p.2) ∧ p.2 < 10 ^ 90) ∧ isFr (fr p) = true) := fun p hp => by
    have := List.all_eq_true.mp sp p hp
    simpa only [Bool.and_eq_true, decide_eq_true_eq] using this
  obtain ⟨g, hg⟩ := least_fraction (n := n) (h := h) w (fun p hp => ⟨(sp' p hp).1.1.1.1, (sp' p hp).1.1.1.2, (sp' p hp).1.1.2, (sp' p hp).1.2⟩) (fun p hp => (sp' p hp).2)
  exact ⟨g, by rw [hg, e]; rfl⟩
theorem greatest_of {n : Nat} {h : Hh} (ps : List (Int × Int)) (m : Int × Int) (w : ps.length ≤ 1000) (sp : ps.all (fun p => decide (0 ≤ p.1) && decide (p.1 < 10 ^ 90) && decide (0 ≤ p.2) && decide (p.2 < 10 ^ 90) && isFr (fr p)) = true) (e : ps.foldl (keep1 gt2) none = some m) {xs : List D} (ex : xs = ps.map fr) :
    ∃ g, cf pg (n + 4) 16 [.tup xs] h = .ok (fr m) (h ++ g) := by
  subst ex
  have sp' : ∀ p ∈ ps, ((((0 ≤ p.1 ∧ p.1 < 10 ^ 90) ∧ 0 ≤ p.2) ∧ p.2 < 10 ^ 90) ∧ isFr (fr p) = true) := fun p hp => by
    have := List.all_eq_true.mp sp p hp
    simpa only [Bool.and_eq_true, decide_eq_true_eq] using this
  obtain ⟨g, hg⟩ := greatest_fraction (n := n) (h := h) w (fun p hp => ⟨(sp' p hp).1.1.1.1, (sp' p hp).1.1.1.2, (sp' p hp).1.1.2, (sp' p hp).1.2⟩) (fun p hp => (sp' p hp).2)
  exact ⟨g, by rw [hg, e]; rfl⟩
/-- two lists of the same two fractions -/
theorem toP_two {h : Hh} {a : Nat} {p q : Int × Int} (e : h[a]? = some (.lst [fr p, fr q])) : toP h deep (.ref a) = some (.list [.tuple [.int p.1, .int p.2], .tuple [.int q.1, .int q.2]]) := by
  simp only [toP, deep, e, optMap]
theorem ne_two {h : Hh} {a b : Nat} {p q : Int × Int} (ea : h[a]? = some (.lst [fr p, fr q])) (eb : h[b]? = some (.lst [fr p, fr q])) : cmpD .ne (.ref a) (.ref b) h = .ok (.bl false) h :=
  ne_same (toP_two ea) (toP_two eb) rfl
theorem eq_two {h : Hh} {a b : Nat} {p q : Int × Int} (ea : h[a]? = some (.lst [fr p, fr q])) (eb : h[b]? = some (.lst [fr p, fr q])) : cmpD .eq (.ref a) (.ref b) h = .ok (.bl true) h :=
  eq_same (toP_two ea) (toP_two eb) rfl
abbrev nearL : List (Int × Int) := [(1, 1), (10 ^ 39 - 1, 10 ^ 39), (10 ^ 39, 10 ^ 39 - 1)]
abbrev nearR : List (Int × Int) := [(10 ^ 39, 10 ^ 39 - 1), (10 ^ 39 - 1, 10 ^ 39), (1, 1)]
theorem law3 {n : Nat} {h : Hh} {P : Po} {x0 x1 x2 x4 x5 x6 : Option D} (fin : ∀ h', P.rt (.bl true) h') :
    wps (exSs (MX.E0 pg (n + 5)) (dropS 6 b32) [x0, x1, x2, some (.tup (nearL.map fr)), x4, x5, x6] h) P := by
  have sz2 : (2 : Nat) ≤ sizeLine := by decide
  have sz3 : (3 : Nat) ≤ sizeLine := by decide
  simp only [b32, dropS, ss_cons, wps_sb, s_for, i_seq, e_tup, es_cons, es_nil, e_slot, e_rev, List.getElem?_cons_zero, List.getElem?_cons_succ, slotR_some, rb_ok, List.length_cons, List.length_nil, Nat.zero_add, Nat.reduceAdd, if_pos sz2, wkOf, rs_ok]
  simp only [Wk.len]
  refine for_tup (fun ys env H => (∃ z, env = [x0, x1, x2, some (.tup (nearL.map fr)), z, x5, x6]) ∧ ∀ y ∈ ys, y = .tup (nearL.map fr) ∨ y = .tup (nearR.map fr)) ?_ ?_ ⟨⟨_, rfl⟩, fun y hy => ?_⟩
  · rintro d r env H ⟨⟨z, rfl⟩, hy⟩
    have hr : ∀ y ∈ r, y = .tup (nearL.map fr) ∨ y = .tup (nearR.map fr) := fun y h => hy y (List.mem_cons_of_mem _ h)
    have lo : ∀ H, ∃ g, cf pg (n + 4) 15 [d] H = .ok (fr (10 ^ 39 - 1, 10 ^ 39)) (H ++ g) := fun H => by
      rcases hy d List.mem_cons_self with rfl | rfl
      · exact least_of nearL _ (by decide) (by decide +kernel) (by decide +kernel) rfl
      · exact least_of nearR _ (by decide) (by decide +kernel) (by decide +kernel) rfl
    have hi : ∀ H, ∃ g, cf pg (n + 4) 16 [d] H = .ok (fr (10 ^ 39, 10 ^ 39 - 1)) (H ++ g) := fun H => by
      rcases hy d List.mem_cons_self with rfl | rfl
      · exact greatest_of nearL _ (by decide) (by decide +kernel) (by decide +kernel) rfl
      · exact greatest_of nearR _ (by decide) (by decide +kernel) (by decide +kernel) rfl
    obtain ⟨g1, e1⟩ := lo H
    obtain ⟨g2, e2⟩ := hi (H ++ g1)
    have i1 : ∀ H, idxD (.tup (nearL.map fr)) (.int 1) H = .ok (fr (10 ^ 39 - 1, 10 ^ 39)) H := fun H => idx_tup1
    have i2 : ∀ H, idxD (.tup (nearL.map fr)) (.int 2) H = .ok (fr (10 ^ 39, 10 ^ 39 - 1)) H := fun H => idx_tup2
    simp only [asgT, List.set, s_if, e_cmp, e_lst, e_call, es_cons, es_nil, e_slot, e_idx, e_con, List.getElem?_cons_zero, List.getElem?_cons_succ, slotR_some, rb_ok, e1, e2, i1, i2, List.length_cons, List.length_nil, Nat.zero_add, Nat.reduceAdd, if_pos sz2, ss_cons, ss_nil]
    rw [ne_two (p := (10 ^ 39 - 1, 10 ^ 39)) (q := (10 ^ 39, 10 ^ 39 - 1)) (by simp) (by simp)]
    simp only [rb_ok, tru_bl, rs_ok, Bool.false_eq_true, if_false, sb_nxt, wps_nxt]
    exact ⟨⟨_, rfl⟩, hr⟩
  · rintro env H ⟨⟨z, rfl⟩, _⟩
    obtain ⟨g1, e1⟩ := least_of (n := n) (h := H) [(2, 3), (3, 5), (5, 8)] (3, 5) (by decide) (by decide +kernel) (by decide +kernel) rfl
    obtain ⟨g2, e2⟩ := greatest_of (n := n) (h := H ++ g1) [(2, 3), (3, 4), (5, 7)] (3, 4) (by decide) (by decide +kernel) (by decide +kernel) rfl
    simp only [List.map_cons, List.map_nil] at e1 e2
    simp only [s_ret, e_cmp, e_lst, e_tup, e_call, es_cons, es_nil, e_con, rb_ok, List.length_cons, List.length_nil, Nat.zero_add, Nat.reduceAdd, if_pos sz2, if_pos sz3, e1, e2]
    rw [eq_two (p := (3, 5)) (q := (3, 4)) (by simp) (by simp)]
    simp only [rs_ok, wps_ret]
    exact fin _
  · simp only [List.mem_cons, List.not_mem_nil, or_false] at hy
    rcases hy with rfl | rfl
    · exact .inl rfl
    · exact .inr rfl
end K01
namespace K01
open PySem L2 MX
theorem name_is {n : Nat} {h : Hh} (s : String) (b : Bool) (w : (Str.ofString s).length ≤ 1000) (e : isNm (.str (Str.ofString s)) = b) : ∃ g, cf pg n 2 [.str (Str.ofString s)] h = .ok (.bl b) (h ++ g) := by
  subst e
  exact is_name ⟨trivial, fun x e => by cases e; exact ⟨w, tx_of _⟩⟩
theorem law2 {n : Nat} {h : Hh} {P : Po} {x0 x1 x2 x3 x4 x5 x6 : Option D} (fin : ∀ h', P.rt (.bl true) h') :
    wps (exSs (MX.E0 pg (n + 5)) (dropS 4 b32) [x0, x1, x2, x3, x4, x5, x6] h) P := by
  rw [show dropS 4 b32 = takeT 2 (dropS 4 b32) (dropS 6 b32) from rfl]
  generalize ht : dropS 6 b32 = tl
  have sz2 : (2 : Nat) ≤ sizeLine := by decide
  have sz3 : (3 : Nat) ≤ sizeLine := by decide
  obtain ⟨g1, e1⟩ := name_is (n := n + 4) (h := h) "abc\n" false (by decide) (by decide +kernel)
  obtain ⟨g2, e2⟩ := name_is (n := n + 4) (h := h ++ g1) "\nabc" false (by decide) (by decide +kernel)
  obtain ⟨g3, e3⟩ := name_is (n := n + 4) (h := h ++ g1 ++ g2) "a b" false (by decide) (by decide +kernel)
  have pw : ∀ H, binD .pow (.int 10) (.int 39) H = .ok (.int (10 ^ 39)) H := fun H => pow_int (by decide)
  simp only [b32, dropS, takeT, ss_cons, wps_sb, s_if, e_or, e_call, es_cons, es_nil, e_con, rb_ok, e1, e2, e3, tru_bl, Bool.false_eq_true, if_false, rs_ok, ss_nil, wps_nxt]
  simp only [s_asg, e_tup, e_bin, es_cons, es_nil, e_con, rb_ok, pw, sub_int, List.length_cons, List.length_nil, Nat.zero_add, Nat.reduceAdd, if_pos sz2, if_pos sz3, rs_ok, wps_nxt, List.set]
  rw [← ht]
  exact law3 fin
theorem law1 {n : Nat} {h : Hh} {P : Po} {x0 x1 x2 x3 x4 x5 x6 : Option D} (fin : ∀ h', P.rt (.bl true) h') :
    wps (exSs (MX.E0 pg (n + 6)) (dropS 1 b32) [x0, x1, x2, x3, x4, x5, x6] h) P := by
  rw [show dropS 1 b32 = takeT 3 (dropS 1 b32) (dropS 4 b32) from rfl]
  generalize ht : dropS 4 b32 = tl
  have sz2 : (2 : Nat) ≤ sizeLine := by decide
  have sz5 : (5 : Nat) ≤ sizeLine := by decide
  have m1 : ∀ H, cf pg (n + 5) 9 [.int 0, .int 9] H = .ok (fr (0, 1)) H := fun H => by
    rw [make_ok (by decide) (by decide) (sm_of (by decide) (by decide))]
    rfl
  have m2 : ∀ H, cf pg (n + 5) 9 [.int 7, .int 7] H = .ok (fr (1, 1)) H := fun H => by
    rw [make_ok (by decide) (by decide) (sm_of (by decide) (by decide))]
    rfl
  have f1 : ∀ H, cf pg (n + 5) 4 [.tup [.int 0, .int 1]] H = .ok (.bl true) H := fun H => by
    rw [is_fraction (ask_fr (by decide) (by decide))]
    rfl
  have f2 : ∀ H, cf pg (n + 5) 4 [.tup [.int 0, .int 3]] H = .ok (.bl false) H := fun H => by
    rw [is_fraction (ask_fr (by decide) (by decide))]
    rfl
  obtain ⟨g1, e1⟩ := name_is (n := n + 5) (h := h) "abcdefgh" true (by decide) (by decide +kernel)
  simp only [b32, dropS, takeT, ss_cons, wps_sb, s_asg, e_lst, e_tup, e_call, es_cons, es_nil, e_con, rb_ok, m1, m2, f1, f2, e1, List.length_cons, List.length_nil, Nat.zero_add, Nat.reduceAdd, if_pos sz2, if_pos sz5, rs_ok, wps_nxt, List.set]
  generalize hq : (h ++ g1).length = q
  generalize hL : [fr (0, 1), fr (1, 1), D.bl true, D.bl false, D.bl true] = L
  generalize hH : h ++ g1 ++ [MO.lst L] = H
  have zL : L.length ≤ sizeLine := by rw [← hL]; exact sz5
  have t1 : H[q]? = some (.lst L) := by rw [← hH, ← hq]; simp
  have tp : ∀ H' a, H'[a]? = some (MO.lst L) → toP H' deep (.ref a) = some (.list [.tuple [.int 0, .int 1], .tuple [.int 1, .int 1], .bool true, .bool false, .bool true]) := fun H' a e => by
    rw [← hL] at e
    simp only [toP, deep, e, optMap]
  have hql : q < H.length := (List.getElem?_eq_some_iff.mp t1).1
  have n1 : cmpD .ne (.ref q) (.ref H.length) (H ++ [.lst L]) = .ok (.bl false) (H ++ [.lst L]) := by
    refine ne_same (tp _ _ ?_) (tp _ _ get_last) rfl
    rw [List.getElem?_append_left hql]
    exact t1
  obtain ⟨g2, e2⟩ := name_is (n := n + 5) (h := H ++ [.lst L]) "abcdefghi" false (by decide) (by decide +kernel)
  have hL' : [D.tup [.int 0, .int 1], D.tup [.int 1, .int 1], D.bl true, D.bl false, D.bl true] = L := hL
  simp only [s_if, e_or, e_cmp, e_lst, e_tup, e_call, es_cons, es_nil, e_con, e_slot, List.getElem?_cons_zero, List.getElem?_cons_succ, slotR_some, rb_ok, List.length_cons, List.length_nil, Nat.zero_add, Nat.reduceAdd, if_pos sz2, if_pos sz5, hL', if_pos zL, n1, e2, tru_bl, Bool.false_eq_true, if_false, rs_ok, ss_nil, wps_nxt]
  have pw : ∀ H, binD .pow (.int 10) (.int 39) H = .ok (.int (10 ^ 39)) H := fun H => pow_int (by decide)
  have dr : ∀ a b : Int, (decide (0 ≤ a) && decide (1 ≤ b) && decide (Int.gcd a b = 1) && decide (a < 10 ^ 42) && decide (b < 10 ^ 42)) = true → Drawn a b := fun a b h => by
    simp only [Bool.and_eq_true, decide_eq_true_eq] at h
    exact ⟨h.1.1.1.1, h.1.1.1.2, h.1.1.2, h.1.2, h.2⟩
  have c1 : ∀ H, cf pg (n + 5) 11 [.tup [.int (10 ^ 39), .int 7], .tup [.int (10 ^ 39), .int 3]] H = .ok (.str (Str.ofString "less")) H := fun H => by
    rw [compared' (n := n + 1) (dr _ _ (by decide +kernel)) (dr _ _ (by decide +kernel))]
    rw [show way (10 ^ 39) 7 (10 ^ 39) 3 = "less" by decide +kernel]
  have c2 : ∀ H, cf pg (n + 5) 11 [.tup [.int (10 ^ 39 + 1), .int (10 ^ 39)], .tup [.int 1, .int 1]] H = .ok (.str (Str.ofString "greater")) H := fun H => by
    rw [compared' (n := n + 1) (dr _ _ (by decide +kernel)) (dr _ _ (by decide +kernel))]
    rw [show way (10 ^ 39 + 1) (10 ^ 39) 1 1 = "greater" by decide +kernel]
  simp only [e_bin, rb_ok, e_con, pw, add_int, c1, c2, e_lst, es_cons, es_nil, List.length_cons, List.length_nil, Nat.zero_add, Nat.reduceAdd, if_pos sz2]
  rw [ne_strs (xs := [Str.ofString "less", Str.ofString "greater"]) (fun x hx => by
    simp only [List.mem_cons, List.not_mem_nil, or_false] at hx
    rcases hx with rfl | rfl <;> exact tx_of _) (by simp) (by simp)]
  simp only [rb_ok, tru_bl, rs_ok, Bool.false_eq_true, if_false, ss_nil, wps_nxt]
  rw [← ht]
  exact law2 fin
theorem law_wp {n : Nat} {ns : List Int} : wp (cf pg (n + 11) 32 [.scr ns] []) (fun v _ => v = .bl true) (fun _ _ => False) := by
  rw [cf_eq (fd := d32) rfl rfl rfl]
  rw [show (d32).body = takeT 1 b32 (dropS 1 b32) from rfl]
  generalize ht : dropS 1 b32 = tl
  have ln : ∀ H, btD .len [.scr ns] H = .ok (.int ns.length) H := fun H => rfl
  generalize hm : (if (if (ns.length : Int) < 8 then (ns.length : Int) else 8) > 1 then (if (ns.length : Int) < 8 then (ns.length : Int) else 8) else 1) = m
  have m1 : 0 ≤ m ∧ m ≤ 8 := by
    rw [← hm]
    constructor <;> (split <;> split <;> omega)
  have mn : ∀ (i j : Int) H, btD .min [.int i, .int j] H = .ok (.int (if j < i then j else i)) H := fun i j H => rfl
  have mx : ∀ (i j : Int) H, btD .max [.int i, .int j] H = .ok (.int (if j > i then j else i)) H := fun i j H => rfl
  have wr : wkRng (.int m) [] = .ok (.rng 0 m.toNat) [] := by
    simp only [wkRng]
    rw [if_pos ⟨by omega, by omega⟩]
  simp only [wp_ret, b32, takeT, ss_cons, wps_sb, s_for, i_rng, e_bt, es_cons, es_nil, e_con, e_slot, List.map, List.length, List.replicate, List.append_nil, List.cons_append, List.nil_append, List.getElem?_cons_zero, slotR_some, rb_ok, ln, mn, mx, hm, wr, rs_ok]
  simp only [Wk.len]
  refine for_rng (fun lo j env H => (∃ z1 z2 z3 z4 z5 z6, env = [some (.scr ns), z1, z2, z3, z4, z5, z6]) ∧ 0 ≤ lo ∧ lo + j ≤ 8) ?_ ?_ ⟨⟨_, _, _, _, _, _, rfl⟩, Int.le_refl 0, (by show (0 : Int) + (m.toNat : Int) ≤ 8; omega)⟩
  · rintro lo j env H ⟨⟨z1, z2, z3, z4, z5, z6, rfl⟩, l0, l1⟩
    simp only [asgT, List.set, ss_cons, ss_nil, wps_sb, s_asg, e_call, es_cons, es_nil, e_slot, List.getElem?_cons_zero, List.getElem?_cons_succ, slotR_some, rb_ok, wps_rs]
    refine wp_mono (start (n := n + 10) (h := H) l0 (by omega)) (fun v h1 z => ?_) fun _ _ z => z.elim
    obtain ⟨rfl, B1, _⟩ := z
    generalize H.length = r at B1
    have w4 : wkRng (.int 4) h1 = .ok (.rng 0 4) h1 := rfl
    simp only [wps_nxt, List.set, s_for, i_rng, e_con, rb_ok, w4, rs_ok]
    refine for_rng (fun _ j env H => (∃ z6, env = [some (.scr ns), some (.int lo), z2, z3, z4, some (.ref r), z6]) ∧ ∃ k, k + 100 * j ≤ 400 ∧ Bag r k H) ?_ ?_ ⟨⟨_, rfl⟩, 0, (by show 0 + 100 * 4 ≤ 400; omega), B1⟩
    · rintro lo' j env H ⟨⟨z6, rfl⟩, k, hk, B⟩
      simp only [asgT, List.set, ss_cons, ss_nil, wps_sb, s_if, e_or, e_not, e_call, es_cons, es_nil, e_slot, List.getElem?_cons_zero, List.getElem?_cons_succ, slotR_some, rb_ok, wps_rs, wp_rb]
      refine wp_mono (values (n := n + 1) B (by omega)) (fun v h2 z => ?_) fun _ _ z => z.elim
      obtain ⟨rfl, B2, _⟩ := z
      simp only [tru_bl, wp_ok, Bool.not_true, Bool.false_eq_true, if_false, wp_rb]
      refine wp_mono (sums (n := n + 1) B2 (by omega)) (fun v h3 z => ?_) fun _ _ z => z.elim
      obtain ⟨rfl, B3, _⟩ := z
      simp only [tru_bl, wp_ok, Bool.not_true, Bool.false_eq_true, if_false, wp_rb]
      refine wp_mono (refused (n := n + 1) B3 (by omega)) (fun v h4 z => ?_) fun _ _ z => z.elim
      obtain ⟨rfl, B4, _⟩ := z
      simp only [tru_bl, wp_ok, Bool.not_true, Bool.false_eq_true, if_false, wps_nxt]
      exact ⟨⟨_, rfl⟩, _, by omega, B4⟩
    · rintro lo' env H' ⟨⟨z6, rfl⟩, _⟩
      exact ⟨⟨_, _, _, _, _, _, rfl⟩, by omega, by omega⟩
  · rintro lo env H ⟨⟨z1, z2, z3, z4, z5, z6, rfl⟩, _⟩
    rw [← ht]
    exact law1 (n := n + 5) fun h' => rfl
theorem answered {ns : List Int} : answers pg 20 32 ns = true := by
  have w := law_wp (n := 9) (ns := ns)
  unfold answers
  show (match cf pg 20 32 [.scr ns] [] with | .ok (.bl true) _ => true | _ => false) = true
  cases e : cf pg (9 + 11) 32 [.scr ns] [] with
  | ok v h =>
    rw [e] at w
    cases w
    rfl
  | exc x h =>
    rw [e] at w
    exact w.elim
  | bad =>
    rw [e] at w
    exact w.elim
end K01
open PySem PySem.W PyProof.Rows
set_option maxRecDepth 100000 in
set_option maxHeartbeats 0 in
theorem PySem.Challenge.cw_timesdear_k01_names_and_fractions_holds : PySem.Challenge.rw_timesdear_k01_names_and_fractions.Holds := by
  w_on; o_law; k_head; (case hw => w_witness2)
  k_fill
  refine MX.walkM (l := PySem.Challenge.rw_timesdear_k01_names_and_fractions) (n := 63) (m := 20) (i := 32) (pg := K01.pg) (g := K01.gb) rfl (by decide) rfl ⟨rfl, by decide, by decide⟩ (fun w h Y => by first | exact PySem.W.km_in_of Y | exact PySem.W.kIn_of Y) (by rfl) ?F (fun _ _ _ => K01.answered)
  case F =>
    intro w mg mb mean h Y KX T
    refine' K01.linked KX T ?a0 ?l0 ?e0 ?k0 ?a1 ?l1 ?e1 ?k1 ?a2 ?l2 ?e2 ?k2 ?a3 ?l3 ?e3 ?k3 ?a4 ?l4 ?e4 ?k4 ?a5 ?l5 ?e5 ?k5 ?a6 ?l6 ?e6 ?k6 ?a7 ?l7 ?e7 ?k7 ?a8 ?l8 ?e8 ?k8 ?a9 ?l9 ?e9 ?k9 ?a10 ?l10 ?e10 ?k10 ?a11 ?l11 ?e11 ?k11 ?a12 ?l12 ?e12 ?k12 ?a13 ?l13 ?e13 ?k13 ?a14 ?l14 ?e14 ?k14 ?a15 ?l15 ?e15 ?k15 ?a16 ?l16 ?e16 ?k16 ?a17 ?l17 ?e17 ?k17 ?a18 ?l18 ?e18 ?k18 ?a19 ?l19 ?e19 ?k19 ?a20 ?l20 ?e20 ?k20 ?a21 ?l21 ?e21 ?k21 ?a22 ?l22 ?e22 ?k22 ?a23 ?l23 ?e23 ?k23 ?a24 ?l24 ?e24 ?k24 ?a25 ?l25 ?e25 ?k25 ?a26 ?l26 ?e26 ?k26 ?a27 ?l27 ?e27 ?k27 ?a28 ?l28 ?e28 ?k28 ?a29 ?l29 ?e29 ?k29 ?xl29 ?xv29 ?xr29 ?a30 ?l30 ?e30 ?k30 ?a31 ?l31 ?e31 ?k31 ?xl31 ?xv31 ?xr31 ?a32 ?l32 ?e32 ?k32 ?g_LETTERS ?g_MOST_LETTERS ?g_LESS ?g_EQUAL ?g_GREATER ?z_len ?z_abs ?z_max ?z_min ?z_int ?z_list ?z_tuple ?z_repr ?z_all ?z_isinstance ?z_bool ?z_str ?z_range ?ca0 ?ck0 ?cb0 ?cy0 ?ci0 ?cx0 ?ca1 ?ck1 ?cb1 ?cy1 ?ci1 ?cl1 ?ch1 ?ct_1 ?cs1 ?cn1 ?cf1 ?cli1 ?cci1 ?cg1 ?cgg1 ?chd1 ?cno1 ?s0_0 ?s0_1 ?s1_0 ?s1_1 ?tk29 ?tk31 ?tn29_31
    (case a0 => k_is)
    (case l0 => k_is)
    (case e0 => k_is)
    (case k0 => k_is)
    (case a1 => k_is)
    (case l1 => k_is)
    (case e1 => k_is)
    (case k1 => k_is)
    (case a2 => k_is)
    (case l2 => k_is)
    (case e2 => k_is)
    (case k2 => k_is)
    (case a3 => k_is)
    (case l3 => k_is)
    (case e3 => k_is)
    (case k3 => k_is)
    (case a4 => k_is)
    (case l4 => k_is)
    (case e4 => k_is)
    (case k4 => k_is)
    (case a5 => k_is)
    (case l5 => k_is)
    (case e5 => k_is)
    (case k5 => k_is)
    (case a6 => k_is)
    (case l6 => k_is)
    (case e6 => k_is)
    (case k6 => k_is)
    (case a7 => k_is)
    (case l7 => k_is)
    (case e7 => k_is)
    (case k7 => k_is)
    (case a8 => k_is)
    (case l8 => k_is)
    (case e8 => k_is)
    (case k8 => k_is)
    (case a9 => k_is)
    (case l9 => k_is)
    (case e9 => k_is)
    (case k9 => k_is)
    (case a10 => k_is)
    (case l10 => k_is)
    (case e10 => k_is)
    (case k10 => k_is)
    (case a11 => k_is)
    (case l11 => k_is)
    (case e11 => k_is)
    (case k11 => k_is)
    (case a12 => k_is)
    (case l12 => k_is)
    (case e12 => k_is)
    (case k12 => k_is)
    (case a13 => k_is)
    (case l13 => k_is)
    (case e13 => k_is)
    (case k13 => k_is)
    (case a14 => k_is)
    (case l14 => k_is)
    (case e14 => k_is)
    (case k14 => k_is)
    (case a15 => k_is)
    (case l15 => k_is)
    (case e15 => k_is)
    (case k15 => k_is)
    (case a16 => k_is)
    (case l16 => k_is)
    (case e16 => k_is)
    (case k16 => k_is)
    (case a17 => k_is)
    (case l17 => k_is)
    (case e17 => k_is)
    (case k17 => k_is)
    (case a18 => k_is)
    (case l18 => k_is)
    (case e18 => k_is)
    (case k18 => k_is)
    (case a19 => k_is)
    (case l19 => k_is)
    (case e19 => k_is)
    (case k19 => k_is)
    (case a20 => k_is)
    (case l20 => k_is)
    (case e20 => k_is)
    (case k20 => k_is)
    (case a21 => k_is)
    (case l21 => k_is)
    (case e21 => k_is)
    (case k21 => k_is)
    (case a22 => k_is)
    (case l22 => k_is)
    (case e22 => k_is)
    (case k22 => k_is)
    (case a23 => k_is)
    (case l23 => k_is)
    (case e23 => k_is)
    (case k23 => k_is)
    (case a24 => k_is)
    (case l24 => k_is)
    (case e24 => k_is)
    (case k24 => k_is)
    (case a25 => k_is)
    (case l25 => k_is)
    (case e25 => k_is)
    (case k25 => k_is)
    (case a26 => k_is)
    (case l26 => k_is)
    (case e26 => k_is)
    (case k26 => k_is)
    (case a27 => k_is)
    (case l27 => k_is)
    (case e27 => k_is)
    (case k27 => k_is)
    (case a28 => k_is)
    (case l28 => k_is)
    (case e28 => k_is)
    (case k28 => k_is)
    (case a29 => k_is)
    (case l29 => k_is)
    (case e29 => k_is)
    (case k29 => k_is)
    (case xl29 => k_is)
    (case xv29 => rfl)
    (case xr29 => decide +kernel)
    (case a30 => k_is)
    (case l30 => k_is)
    (case e30 => k_is)
    (case k30 => k_is)
    (case a31 => k_is)
    (case l31 => k_is)
    (case e31 => k_is)
    (case k31 => k_is)
    (case xl31 => k_is)
    (case xv31 => rfl)
    (case xr31 => decide +kernel)
    (case a32 => k_is)
    (case l32 => k_is)
    (case e32 => k_is)
    (case k32 => k_is)
    (case g_LETTERS => k_is)
    (case g_MOST_LETTERS => k_is)
    (case g_LESS => k_is)
    (case g_EQUAL => k_is)
    (case g_GREATER => k_is)
    (case z_len => k_is)
    (case z_abs => k_is)
    (case z_max => k_is)
    (case z_min => k_is)
    (case z_int => k_is)
    (case z_list => k_is)
    (case z_tuple => k_is)
    (case z_repr => k_is)
    (case z_all => k_is)
    (case z_isinstance => k_is)
    (case z_bool => k_is)
    (case z_str => k_is)
    (case z_range => k_is)
    (case ca0 => k_is)
    (case ck0 => k_is)
    (case cb0 => k_is)
    (case cy0 => k_is)
    (case ci0 => k_is)
    (case cx0 => k_exc)
    (case ca1 => k_is)
    (case ck1 => k_is)
    (case cb1 => k_is)
    (case cy1 => k_is)
    (case ci1 => k_is)
    (case cl1 => k_is)
    (case ch1 => decide +kernel)
    (case ct_1 => k_is)
    (case cs1 => k_is)
    (case cn1 => k_is)
    (case cf1 => k_is)
    (case cli1 => k_is)
    (case cci1 => k_is)
    (case cg1 => k_is)
    (case cgg1 => k_is)
    (case chd1 => k_is)
    (case cno1 => k_is)
    (case s0_0 => first | rfl | k_is)
    (case s0_1 => first | rfl | k_is)
    (case s1_0 => first | rfl | k_is)
    (case s1_1 => first | rfl | k_is)
    (case tk29 => first | kernel_rfl | rfl)
    (case tk31 => first | kernel_rfl | rfl)
    (case tn29_31 => decide)
