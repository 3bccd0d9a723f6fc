import PyProof.Rows.All
import HandS.ForMost
import HandS.ForExc
import HandS.Flow
import HandS.ExcOwn
import HandS.TryMany
import HandS.Small
import HandS.SetFor
import HandS.Style
import HandS.Defaults
import HandS.Wide
import HandS.Deep
import HandS.TupAny
import HandS.More
import KE.KDictPairs
import HandS.SortInts
import HandS.SortRule
import HandS.TupLen
import HandS.Head0
import HandS.Head1
import HandS.Head2
import HandS.HeadEnd
import HandS.HeadHook1
import HandS.HeadHook2
import HandS.Zip
import HandS.Text
import KE.GoesEnum
import KE.GoesMore
import KE.KIsAll
import PyProof.ExcBaseAll.ValueError
import PyProof.Rows.SortStr
import PyProof.TupleCall
import HandS.TupSets
import HandS.Conv
import PyProof.ListStr
import PySem.Challenge.RW_sidedeeds_k26_whole_who_reads_and_writes
set_option Elab.async false
set_option linter.all false
section
set_option maxRecDepth 10000
/-! The plain side: data, a small tongue of terms, what each term comes to. No heap here. -/
namespace G
open PySem
abbrev Ky := L2.Key
/-- data as the laws and the program have them -/
inductive D where
  | non
  | bl (b : Bool)
  | int (i : Int)
  | str (s : Str)
  | tup (xs : List D)
  | wtp (xs : List D)
  | lst (xs : List D)
  | dk (kvs : List (Ky × D))
  | dt (kvs : List (List Ky × D))
  | scr (ns : List Int)
  deriving Inhabited
/-- the refusals -/
inductive Ex where
  | SideError | NoDeed | Clash | BadRounds | TooMany | NameTaken | Locked | NoText
  deriving DecidableEq
def Ex.name : Ex → Str
  | .SideError => "SideError"
  | .NoDeed => "NoDeed"
  | .Clash => "Clash"
  | .BadRounds => "BadRounds"
  | .TooMany => "TooMany"
  | .NameTaken => "NameTaken"
  | .Locked => "Locked"
  | .NoText => "NoText"
abbrev Sg := List D
/-- what an expression comes to: a datum and the slots behind it; a refusal; nothing told -/
inductive Out (α : Type) where
  | ok (a : α) (s : Sg)
  | exc (x : Ex) (s : Sg)
  | stuck
def Out.bind {α β : Type} (o : Out α) (f : α → Sg → Out β) : Out β :=
  match o with
  | .ok a s => f a s
  | .exc x s => .exc x s
  | .stuck => .stuck
@[simp] theorem Out.bind_ok {α β : Type} (a : α) (s : Sg) (f : α → Sg → Out β) : (Out.ok a s).bind f = f a s := rfl
@[simp] theorem Out.bind_exc {α β : Type} (x : Ex) (s : Sg) (f : α → Sg → Out β) : (Out.exc x s : Out α).bind f = .exc x s := rfl
@[simp] theorem Out.bind_stuck {α β : Type} (f : α → Sg → Out β) : (Out.stuck : Out α).bind f = .stuck := rfl
/-- what a def comes to: its value, or a refusal, and the lent lists as they are then -/
inductive FOut where
  | ret (d : D) (o : Sg)
  | exc (x : Ex) (o : Sg)
  | stuck
/-- what a statement comes to -/
inductive SOut where
  | nx (s : Sg)
  | ret (d : D) (s : Sg)
  | exc (x : Ex) (s : Sg)
  | stuck
def gt (s : Sg) (i : Nat) : D := (s[i]?).getD .non
def optD (o : Option D) (s : Sg) : Out D :=
  match o with
  | some d => .ok d s
  | none => .stuck
@[simp] theorem optD_some (d : D) (s : Sg) : optD (some d) s = .ok d s := rfl
/-- a strict thing done to the values of its parts. nw: it makes a new list or dict that nobody else holds; esc: which parts are kept in what it makes -/
structure Pr where
  rcg : Scope → Expr → Option (List Expr)
  sem : List D → Option D
  nw : Bool := false
  esc : Nat → Bool := fun _ => false
  cmp : Bool := false
/-- a thing that is walked: its items, of the values of its parts -/
structure Ip where
  rcg : Scope → Expr → Expr → Option (List Expr)
  sem : List D → Option (List D)
/-- a def that is called: lend tells which parameters are lists that it may change -/
structure Fn where
  name : Str
  lend : List Bool
  nw : Bool
  sem : List D → FOut
/-- a method: its receiver's value must be of the right kind before the arguments are reckoned -/
structure Mt where
  rcg : Scope → Expr → Option (Expr × List Expr)
  recv : D → Bool
  sem : D → List D → Option D
  nw : Bool := false
  esc : Nat → Bool := fun _ => false
inductive Tg where
  | name (i : Nat)
  | tup (ts : List Tg)
mutual
inductive CE where
  | var (i : Nat)
  | pr (P : Pr) (as : CEs)
  | bool (op : Bool) (as : CEs)
  | not (a : CE)
  | ife (c a b : CE)
  | call (f : Fn) (as : CAs)
  | pop (i : Nat) (as : CEs)
  | comp (P : Ip) (as : CEs) (tg : Tg) (ifs : CEs) (elt : CE) (own : List Nat)
  | keys (i : Nat) (tg : Tg) (ifs : CEs) (elt : CE) (own : List Nat)
  | meth (M : Mt) (o : CE) (as : CEs)
  | chain (l1 l2 : Bool) (a b c : CE)
inductive CEs where
  | nil
  | cons (c : CE) (cs : CEs)
inductive CAs where
  | nil
  | val (c : CE) (cs : CAs)
  | lent (i : Nat) (cs : CAs)
end
/-- what is known of a slot: nothing, a frozen datum, a list or dict of its own -/
inductive SK where
  | un | fr | ow
  deriving DecidableEq
/-- a written constant -/
inductive Ct where
  | non | bl (b : Bool) | int (i : Int) | str (s : Str)
def Ct.d : Ct → D
  | .non => .non
  | .bl b => .bl b
  | .int i => .int i
  | .str s => .str s
/-- what an except clause does -/
inductive Hs where
  | set (i : Nat) (k : Ct)
  | ret (k : Ct)
mutual
inductive CS where
  | asg (tg : Tg) (e : CE)
  | own (i : Nat) (e : CE)
  | par (ts : List (Nat × Bool)) (es : CEs)
  | setIt (i : Nat) (ix : CE) (e : CE)
  | app (i : Nat) (e : CE)
  | ext (i : Nat) (e : CE)
  | rem (i : Nat) (e : CE)
  | upd (i : Nat) (e : CE)
  | expr (e : CE)
  | iff (c : CE) (a b : CSs) (g : List SK)
  | for_ (P : Ip) (as : CEs) (tg : Tg) (body : CSs) (g : List SK)
  | forK (i : Nat) (tg : Tg) (body : CSs) (g : List SK)
  | whl (c : CE) (body : CSs) (g : List SK)
  | ret (e : CE)
  | raise (x : Ex)
  | tri (body : CSs) (xs : List Ex) (hs : List (Ex × Hs)) (gx gj : List SK)
  | pass
inductive CSs where
  | nil
  | cons (s : CS) (ss : CSs)
  | frz (i : Nat) (ss : CSs)
end
/-! ### truth, targets -/
def tru : D → Option Bool
  | .non => some false
  | .bl b => some b
  | .int i => some (i != 0)
  | .str s => if s.length ≤ sizeLine then some (s.length != 0) else none
  | .tup xs => some (!xs.isEmpty)
  | .wtp xs => some (!xs.isEmpty)
  | .lst xs => some (!xs.isEmpty)
  | .dk _ => none
  | .dt _ => none
  | .scr ns => some (!ns.isEmpty)
def optB (o : Option Bool) (s : Sg) : Out Bool :=
  match o with
  | some b => .ok b s
  | none => .stuck
@[simp] theorem optB_some (b : Bool) (s : Sg) : optB (some b) s = .ok b s := rfl
mutual
def bnd : Tg → D → Sg → Option Sg
  | .name i, d, s => if i < s.length then some (s.set i d) else none
  | .tup ts, .tup ds, s => if ts.length = ds.length then bnds ts ds s else none
  | .tup ts, .wtp ds, s => if ts.length = ds.length then bnds ts ds s else none
  | .tup ts, .lst ds, s => if ts.length = ds.length then bnds ts ds s else none
  | .tup _, .non, _ => none
  | .tup _, .bl _, _ => none
  | .tup _, .int _, _ => none
  | .tup _, .str _, _ => none
  | .tup _, .dk _, _ => none
  | .tup _, .dt _, _ => none
  | .tup _, .scr _, _ => none
def bnds : List Tg → List D → Sg → Option Sg
  | [], [], s => some s
  | t :: ts, d :: ds, s => match bnd t d s with
    | some s1 => bnds ts ds s1
    | none => none
  | _, _, _ => none
end
def wipe (s : Sg) : List Nat → Sg
  | [] => s
  | i :: r => (wipe s r).set i .non
/-- the slots at own as they were in s0 -/
def rest (s0 s : Sg) : List Nat → Sg
  | [] => s
  | i :: r => (rest s0 s r).set i (gt s0 i)
/-- the turns of a comprehension, over what stands in the slots ahead of each turn -/
def compL (tg : Tg) (ifs : Sg → Out Bool) (elt : Sg → Out D) (own : List Nat) : List D → Sg → List D → Out (List D)
  | [], s, acc => .ok acc s
  | d :: ds, s, acc => match bnd tg d (wipe s own) with
    | none => .stuck
    | some s1 => (ifs s1).bind fun b s2 =>
      if b then (elt s2).bind fun y s3 => if acc.length < sizeLine then compL tg ifs elt own ds s3 (acc ++ [y]) else .stuck
      else compL tg ifs elt own ds s2 acc
/-- no refusal may leave -/
def Out.calm {α : Type} : Out α → Out α
  | .exc _ _ => .stuck
  | o => o
def keysOf : D → Option (List D)
  | .dk kvs => some (kvs.map fun p => match p.1 with | .inl i => .int i | .inr x => .str x)
  | .dt kvs => some (kvs.map fun p => .wtp (p.1.map fun k => match k with | .inl i => .int i | .inr x => .str x))
  | _ => none
/-- xs.pop(), xs.pop(i): the item, and what is left -/
def popAt : D → List D → Option (D × D)
  | .lst xs, [] => match xs.getLast? with
    | some x => some (x, .lst xs.dropLast)
    | none => none
  | .lst xs, [.int i] => if 0 ≤ i then (if i < 9223372036854775808 then (match xs[i.toNat]? with
    | some x => some (x, .lst (xs.eraseIdx i.toNat))
    | none => none) else none) else none
  | _, _ => none
def isLst : D → Bool
  | .lst _ => true
  | _ => false
def isDk : D → Bool
  | .dk _ => true
  | _ => false
def fill : CAs → List D → Sg → List D
  | .nil, _, _ => []
  | .val _ r, d :: ds, s => d :: fill r ds s
  | .val _ _, [], _ => []
  | .lent i r, ds, s => gt s i :: fill r ds s
def putB : CAs → Sg → Sg → Sg
  | .nil, _, s => s
  | .val _ r, o, s => putB r o s
  | .lent i r, d :: o, s => putB r o (s.set i d)
  | .lent _ _, [], s => s
/-- less; less or the same -/
def ordB : Bool → D → D → Option Bool
  | false, .int i, .int j => some (decide (i < j))
  | true, .int i, .int j => some (decide (i ≤ j))
  | false, .str a, .str b => some (decide (a.cps.toList < b.cps.toList))
  | true, .str a, .str b => some (!decide (b.cps.toList < a.cps.toList))
  | _, _, _ => none
mutual
def evE : CE → Sg → Out D
  | .var i, s => .ok (gt s i) s
  | .pr P as, s => (evEs as s).bind fun ds s1 => optD (P.sem ds) s1
  | .bool op as, s => evB op as s
  | .not a, s => (evE a s).bind fun d s1 => (optB (tru d) s1).bind fun b s2 => .ok (.bl (!b)) s2
  | .ife c a b, s => (evT c s).bind fun t s1 => if t then evE a s1 else evE b s1
  | .call f as, s => (evAs as s).bind fun ds s1 => match f.sem (fill as ds s1) with
    | .ret d o => .ok d (putB as o s1)
    | .exc x o => .exc x (putB as o s1)
    | .stuck => .stuck
  | .pop i as, s => if isLst (gt s i) = true then (evEs as s).bind fun ds s1 => match popAt (gt s1 i) ds with
    | some (x, y) => .ok x (s1.set i y)
    | none => .stuck
    else .stuck
  | .comp P as tg ifs elt own, s => (evEs as s).bind fun ds s1 => match P.sem ds with
    | none => .stuck
    | some items => ((compL tg (fun s2 => evTs ifs s2) (fun s2 => evE elt s2) own items s1 []).calm).bind fun acc s2 => .ok (.lst acc) (rest s1 s2 own)
  | .keys i tg ifs elt own, s => match keysOf (gt s i) with
    | none => .stuck
    | some items => ((compL tg (fun s2 => evTs ifs s2) (fun s2 => evE elt s2) own items s []).calm).bind fun acc s2 => .ok (.lst acc) (rest s s2 own)
  | .meth M o as, s => (evE o s).bind fun d s1 => if M.recv d = true then (evEs as s1).bind fun ds s2 => optD (M.sem d ds) s2 else .stuck
  | .chain l1 l2 a b c, s => (evE a s).bind fun x s1 => (evE b s1).bind fun y s2 => (optB (ordB l1 x y) s2).bind fun t s3 => if t = true then ((evE c s3).bind fun z s4 => (optB (ordB l2 y z) s4).bind fun u s5 => .ok (.bl u) s5) else .ok (.bl false) s3
def evEs : CEs → Sg → Out (List D)
  | .nil, s => .ok [] s
  | .cons c cs, s => (evE c s).bind fun d s1 => (evEs cs s1).bind fun ds s2 => .ok (d :: ds) s2
def evAs : CAs → Sg → Out (List D)
  | .nil, s => .ok [] s
  | .val c cs, s => (evE c s).bind fun d s1 => (evAs cs s1).bind fun ds s2 => .ok (d :: ds) s2
  | .lent _ cs, s => evAs cs s
/-- and, or as values -/
def evB : Bool → CEs → Sg → Out D
  | _, .nil, _ => .stuck
  | _, .cons c .nil, s => evE c s
  | op, .cons c cs, s => (evE c s).bind fun d s1 => (optB (tru d) s1).bind fun b s2 => if b = op then evB op cs s2 else .ok d s2
/-- as a test -/
def evT : CE → Sg → Out Bool
  | .bool op as, s => evBT op as s
  | .not a, s => (evT a s).bind fun b s1 => .ok (!b) s1
  | .var i, s => optB (tru (gt s i)) s
  | .pr P as, s => (evEs as s).bind fun ds s1 => (optD (P.sem ds) s1).bind fun d s2 => optB (tru d) s2
  | .ife _ _ _, _ => .stuck
  | .call f as, s => (evAs as s).bind fun ds s1 => match f.sem (fill as ds s1) with
    | .ret d o => optB (tru d) (putB as o s1)
    | .exc x o => .exc x (putB as o s1)
    | .stuck => .stuck
  | .pop _ _, _ => .stuck
  | .comp P as tg ifs elt own, s => (evEs as s).bind fun ds s1 => match P.sem ds with
    | none => .stuck
    | some items => ((compL tg (fun s2 => evTs ifs s2) (fun s2 => evE elt s2) own items s1 []).calm).bind fun acc s2 => .ok (!acc.isEmpty) (rest s1 s2 own)
  | .keys _ _ _ _ _, _ => .stuck
  | .meth M o as, s => (evE o s).bind fun d s1 => if M.recv d = true then ((evEs as s1).bind fun ds s2 => (optD (M.sem d ds) s2).bind fun r s3 => optB (tru r) s3) else .stuck
  | .chain l1 l2 a b c, s => (evE a s).bind fun x s1 => (evE b s1).bind fun y s2 => (optB (ordB l1 x y) s2).bind fun t s3 => if t = true then ((evE c s3).bind fun z s4 => optB (ordB l2 y z) s4) else .ok false s3
def evBT : Bool → CEs → Sg → Out Bool
  | _, .nil, _ => .stuck
  | _, .cons c .nil, s => evT c s
  | op, .cons c cs, s => (evT c s).bind fun b s1 => if b = op then evBT op cs s1 else .ok b s1
/-- the ifs of a comprehension: none, or one -/
def evTs : CEs → Sg → Out Bool
  | .nil, s => .ok true s
  | .cons c .nil, s => evT c s
  | .cons _ _, _ => .stuck
end
/-! ### statements -/
def forL (tg : Tg) (body : Sg → SOut) : List D → Sg → SOut
  | [], s => .nx s
  | d :: ds, s => match bnd tg d s with
    | none => .stuck
    | some s1 => match body s1 with
      | .nx s2 => forL tg body ds s2
      | o => o
def whileL (c : Sg → Out Bool) (body : Sg → SOut) : Nat → Sg → SOut
  | 0, _ => .stuck
  | n + 1, s => match c s with
    | .ok true s1 => (match body s1 with
      | .nx s2 => whileL c body n s2
      | o => o)
    | .ok false s1 => .nx s1
    | .exc x s1 => .exc x s1
    | .stuck => .stuck
/-- more turns than any loop takes -/
def wmax : Nat := 1073741824
def Out.st {α : Type} (o : Out α) (f : α → Sg → SOut) : SOut :=
  match o with
  | .ok a s => f a s
  | .exc x s => .exc x s
  | .stuck => .stuck
@[simp] theorem Out.st_ok {α : Type} (a : α) (s : Sg) (f : α → Sg → SOut) : (Out.ok a s).st f = f a s := rfl
@[simp] theorem Out.st_exc {α : Type} (x : Ex) (s : Sg) (f : α → Sg → SOut) : (Out.exc x s : Out α).st f = .exc x s := rfl
@[simp] theorem Out.st_stuck {α : Type} (f : α → Sg → SOut) : (Out.stuck : Out α).st f = .stuck := rfl
/-- the refusal x is one of the class c -/
def Ex.isA (x c : Ex) : Bool := decide (x = c) || decide (c = .SideError)
/-! ### dicts -/
def look {κ : Type} [DecidableEq κ] (k : κ) (kvs : List (κ × D)) : Option D := (kvs.find? fun p => decide (p.1 = k)).map (·.2)
def putK {κ : Type} [DecidableEq κ] (k : κ) (v : D) (kvs : List (κ × D)) : List (κ × D) :=
  if (kvs.any fun p => decide (p.1 = k)) = true then kvs.map (fun p => if p.1 = k then (p.1, v) else p) else kvs ++ [(k, v)]
def keyOf : D → Option Ky
  | .int i => some (.inl i)
  | .str x => some (.inr x)
  | _ => none
def keysT : List D → Option (List Ky)
  | [] => some []
  | d :: r => match keyOf d, keysT r with
    | some k, some ks => some (k :: ks)
    | _, _ => none
def tupKey : D → Option (List Ky)
  | .wtp ds => keysT ds
  | _ => none
/-- o[i] = v -/
def setAt : D → D → D → Option D
  | .lst xs, .int i, v => (if 0 ≤ i then (if i.toNat < xs.length then some (.lst (xs.set i.toNat v)) else none)
    else (if (i + xs.length) < 0 then none else some (.lst (xs.set (i + xs.length).toNat v))))
  | .dk kvs, k, v => match keyOf k with
    | some k => if kvs.length < sizeLine then some (.dk (putK k v kvs)) else none
    | none => none
  | .dt kvs, k, v => match tupKey k with
    | some k => if kvs.length < sizeLine then some (.dt (putK k v kvs)) else none
    | none => none
  | _, _, _ => none
def appTo : D → D → Option D
  | .lst xs, v => if xs.length < sizeLine then some (.lst (xs ++ [v])) else none
  | _, _ => none
def extTo : D → D → Option D
  | .lst xs, .lst ys => if xs.length + ys.length ≤ sizeLine then some (.lst (xs ++ ys)) else none
  | _, _ => none
def mergeD (kvs : List (Ky × D)) : List (Ky × D) → List (Ky × D)
  | [] => kvs
  | (k, v) :: r => mergeD (putK k v kvs) r
def updTo : D → D → Option D
  | .dk kvs, .dk more => if kvs.length + more.length ≤ sizeLine then some (.dk (mergeD kvs more)) else none
  | _, _ => none
def isInt : D → Option Int
  | .int i => some i
  | _ => none
/-- xs.remove(n), a list of whole numbers, n among them -/
def remFrom : D → D → Option D
  | .lst xs, .int n => match xs.mapM isInt with
    | some ns => if n ∈ ns then some (.lst ((ns.erase n).map .int)) else none
    | none => none
  | _, _ => none
def onSlot (i : Nat) (s : Sg) (o : Option D) : SOut :=
  match o with
  | some d => .nx (s.set i d)
  | none => .stuck
@[simp] theorem onSlot_some (i : Nat) (s : Sg) (d : D) : onSlot i s (some d) = .nx (s.set i d) := rfl
def parSet : List (Nat × Bool) → List D → Sg → Sg
  | (i, _) :: ts, d :: ds, s => parSet ts ds (s.set i d)
  | _, _, s => s
def evH (x : Ex) : List (Ex × Hs) → Sg → SOut
  | [], s => .exc x s
  | (c, h) :: hs, s => if x.isA c then (match h with
    | .set i k => .nx (s.set i k.d)
    | .ret k => .ret k.d s) else evH x hs s
mutual
def evS : CS → Sg → SOut
  | .asg tg e, s => (evE e s).st fun d s1 => match bnd tg d s1 with
    | some s2 => .nx s2
    | none => .stuck
  | .own i e, s => (evE e s).st fun d s1 => .nx (s1.set i d)
  | .par ts es, s => (evEs es s).st fun ds s1 => .nx (parSet ts ds s1)
  | .setIt i ix e, s => (evE e s).st fun v s1 => (evE ix s1).st fun k s2 => onSlot i s2 (setAt (gt s2 i) k v)
  | .app i e, s => if isLst (gt s i) = true then (evE e s).st fun v s1 => onSlot i s1 (appTo (gt s1 i) v) else .stuck
  | .ext i e, s => if isLst (gt s i) = true then (evE e s).st fun v s1 => onSlot i s1 (extTo (gt s1 i) v) else .stuck
  | .rem i e, s => if isLst (gt s i) = true then (evE e s).st fun v s1 => onSlot i s1 (remFrom (gt s1 i) v) else .stuck
  | .upd i e, s => if isDk (gt s i) = true then (evE e s).st fun v s1 => onSlot i s1 (updTo (gt s1 i) v) else .stuck
  | .expr e, s => (evE e s).st fun _ s1 => .nx s1
  | .iff c a b _, s => (evT c s).st fun t s1 => if t then evSs a s1 else evSs b s1
  | .for_ P as tg body _, s => (evEs as s).st fun ds s1 => match P.sem ds with
    | none => .stuck
    | some items => forL tg (fun s2 => evSs body s2) items s1
  | .forK i tg body _, s => match keysOf (gt s i) with
    | none => .stuck
    | some items => (match forL tg (fun s2 => evSs body s2) items s with
      | .exc _ _ => .stuck
      | o => o)
  | .whl c body _, s => whileL (fun s2 => evT c s2) (fun s2 => evSs body s2) wmax s
  | .ret e, s => (evE e s).st fun d s1 => .ret d s1
  | .raise x, s => .exc x s
  | .tri body xs hs _ _, s => match evSs body s with
    | .exc x s1 => if x ∈ xs then evH x hs s1 else .stuck
    | o => o
  | .pass, s => .nx s
def evSs : CSs → Sg → SOut
  | .nil, s => .nx s
  | .cons c cs, s => match evS c s with
    | .nx s1 => evSs cs s1
    | o => o
  | .frz _ cs, s => evSs cs s
end
def outsAt (ls : List Nat) (s : Sg) : Sg := ls.map (gt s)
/-- a def by its body: n slots, the parameters first -/
def evF (body : CSs) (n : Nat) (ls : List Nat) (ds : List D) : FOut :=
  match evSs body (ds ++ List.replicate (n - ds.length) .non) with
  | .nx s => .ret .non (outsAt ls s)
  | .ret d s => .ret d (outsAt ls s)
  | .exc x s => .exc x (outsAt ls s)
  | .stuck => .stuck
end G
end
section
set_option maxRecDepth 10000
/-! The look at a written def: does the term say what the text says, and who holds which list. Runs in the kernel. -/
namespace G
open PySem
inductive Kd where
  | fz | nw | bo (i : Nat)
  deriving DecidableEq
def Kd.firm : Kd → Bool
  | .bo _ => false
  | _ => true
def firmO : Option Kd → Bool
  | some k => k.firm
  | none => false
/-! ### which slots are changed through a list that they hold -/
def tgS : Tg → List Nat
  | .name i => [i]
  | .tup ts => tgSs ts
where tgSs : List Tg → List Nat
  | [] => []
  | t :: ts => tgS t ++ tgSs ts
mutual
def tcE (i : Nat) : CE → Bool
  | .var _ => false
  | .pr _ as => tcEs i as
  | .bool _ as => tcEs i as
  | .not a => tcE i a
  | .ife c a b => tcE i c || tcE i a || tcE i b
  | .call _ as => tcAs i as
  | .pop j as => decide (i = j) || tcEs i as
  | .comp _ as tg ifs elt own => tcEs i as || tcEs i ifs || tcE i elt || decide (i ∈ own) || decide (i ∈ tgS tg)
  | .keys _ tg ifs elt own => tcEs i ifs || tcE i elt || decide (i ∈ own) || decide (i ∈ tgS tg)
  | .meth _ o as => tcE i o || tcEs i as
  | .chain _ _ a b c => tcE i a || tcE i b || tcE i c
def tcEs (i : Nat) : CEs → Bool
  | .nil => false
  | .cons c cs => tcE i c || tcEs i cs
def tcAs (i : Nat) : CAs → Bool
  | .nil => false
  | .val c cs => tcE i c || tcAs i cs
  | .lent j cs => decide (i = j) || tcAs i cs
end
/-! ### the look -/
def visB (sc : Scope) (x : Str) : Bool := match sc.names.lookup x with
  | some .local => true
  | some .cell => true
  | some .free => true
  | _ => false
def locB (sc : Scope) (x : Str) : Bool := match sc.names.lookup x with
  | some .local => true
  | some .cell => true
  | _ => false
def glB (sc : Scope) (x : Str) : Bool := match sc.names.lookup x with
  | some .globalImplicit => true
  | _ => false
def plainName (x : Str) : Bool := x != ("__debug__" : Str) && x != ("__classdict__" : Str)
/-- the text's own heads that are read another way as a test -/
def plainHead : Expr → Bool
  | .UnaryOp .Not _ _ => false
  | .BoolOp _ _ _ => false
  | .IfExp _ _ _ _ => false
  | .Compare _ _ _ _ => false
  | _ => true
def isStar : Expr → Bool
  | .Starred _ _ => true
  | _ => false
def isComp : Expr → Bool
  | .ListComp _ _ _ _ => true
  | .SetComp _ _ _ _ => true
  | .DictComp _ _ _ _ _ => true
  | _ => false
def isSet : Expr → Bool
  | .Set _ _ _ => true
  | _ => false
def noStarB (es : List Expr) : Bool := es.all fun e => !isStar e
def escOk (esc : Nat → Bool) : Nat → List Kd → Bool
  | _, [] => true
  | j, k :: ks => (!esc j || k.firm) && escOk esc (j + 1) ks
def opIs : Bool → BoolOp → Bool
  | true, .And => true
  | false, .Or => true
  | _, _ => false
def setAll (Γ : List SK) (k : SK) : List Nat → List SK
  | [] => Γ
  | i :: r => (setAll Γ k r).set i k
mutual
def ckTg (N : List Str) (sc : Scope) : Tg → Expr → Bool
  | .name i, .Name x _ => decide (N[i]? = some x) && locB sc x
  | .tup ts, .Tuple es _ _ => ckTgs N sc ts es
  | _, _ => false
def ckTgs (N : List Str) (sc : Scope) : List Tg → List Expr → Bool
  | [], [] => true
  | t :: ts, e :: es => !isStar e && ckTg N sc t e && ckTgs N sc ts es
  | _, _ => false
end
/-- a waiting list is not changed by what follows -/
def quiet (k : Kd) (cs : CEs) : Bool := match k with
  | .bo i => !tcEs i cs
  | _ => true
def quiet2 (ifs : CEs) (elt : CE) (own : List Nat) : Kd → Bool
  | .bo i => !tcEs i ifs && !tcE i elt && !decide (i ∈ own)
  | _ => true
def quietAll (ks : List Kd) (ifs : CEs) (elt : CE) (own : List Nat) : Bool := ks.all (quiet2 ifs elt own)
def notLent (i : Nat) : CAs → Bool
  | .nil => false
  | .val _ cs => notLent i cs
  | .lent j cs => decide (i = j) || notLent i cs
/-- one clause, not async -/
def oneGen : List Comprehension → Option (Expr × Expr × List Expr)
  | [g] => if g.is_async = 0 then some (g.target, g.iter, g.ifs) else none
  | _ => none
theorem oneGen_eq {gs : List Comprehension} {t it : Expr} {is : List Expr} (h : oneGen gs = some (t, it, is)) : gs = [⟨t, it, is, 0⟩] := by
  match gs, h with
  | [g], h =>
    have h : (if g.is_async = 0 then some (g.target, g.iter, g.ifs) else none) = some (t, it, is) := h
    split at h
    · rename_i h0
      obtain ⟨a, b, c, d⟩ := g
      cases h
      cases h0
      rfl
    · cases h
def ordOp : Bool → CmpOp → Bool
  | false, .Lt => true
  | true, .LtE => true
  | _, _ => false
mutual
def ckE (N : List Str) (sc : Scope) (Γ : List SK) : CE → Expr → Option Kd
  | .var i, .Name x _ => if (decide (N[i]? = some x) && visB sc x && plainName x) = true then (match Γ[i]? with
    | some .fr => some .fz
    | some .ow => some (.bo i)
    | _ => none) else none
  | .pr P as, e => match P.rcg sc e with
    | some es => (match ckEs N sc Γ as es with
      | some ks => if escOk P.esc 0 ks = true then some (if P.nw = true then .nw else .fz) else none
      | none => none)
    | none => none
  | .bool op as, .BoolOp o es _ => if (opIs op o && decide (2 ≤ es.length)) = true then (match ckEs N sc Γ as es with
    | some ks => if (ks.all fun k => k = Kd.fz) = true then some .fz else none
    | none => none) else none
  | .not a, .UnaryOp .Not e _ => match ckE N sc Γ a e with
    | some _ => some .fz
    | none => none
  | .ife c a b, .IfExp ec ea eb _ => if ckT N sc Γ c ec = true then (match ckE N sc Γ a ea, ckE N sc Γ b eb with
    | some .fz, some .fz => some .fz
    | some .nw, some .nw => some .nw
    | some .fz, some .nw => some .fz
    | some .nw, some .fz => some .fz
    | _, _ => none) else none
  | .call f as, .Call (.Name x _) es [] _ => if (decide (x = f.name) && glB sc x && plainName x && !es.isEmpty && ckAs N sc Γ f.lend as es) = true then some (if f.nw = true then .nw else .fz) else none
  | .pop i as, .Call (.Attribute (.Name x _) m ap) es [] cp => if (decide (m = ("pop" : Str)) && (ap.endLine == cp.line) && noStarB es && decide (N[i]? = some x) && visB sc x && plainName x && decide (Γ[i]? = some .ow) && !tcEs i as && decide (es.length ≤ 1)) = true then (match ckEs N sc Γ as es with
    | some ks => if (ks.all fun k => k = Kd.fz) = true then some .fz else none
    | none => none) else none
  | .comp P as tg ifs elt own, .ListComp e2 gs scope _ => match oneGen gs with
   | none => none
   | some (t2, it, is) => match P.rcg sc t2 it with
    | some es => (match ckEs N sc Γ as es with
      | some ks => if (!isSet it && L2.blkC N sc scope (own.map fun i => ((N[i]?).getD ⟨#[]⟩, i)) && ckTg N scope tg t2 && decide (tgS tg = own) && quietAll ks ifs elt own && own.all (fun i => decide (Γ[i]? ≠ some .ow) && decide (i < Γ.length)) &&
          ckTs N (L2.relS scope sc) (setAll Γ .fr own) ifs is && firmO (ckE N (L2.relS scope sc) (setAll Γ .fr own) elt e2)) = true then some .nw else none
      | none => none)
    | none => none
  | .keys i tg ifs elt own, .ListComp e2 gs scope _ => match oneGen gs with
   | some (t2, .Name x _, is) =>
    if (decide (N[i]? = some x) && visB sc x && plainName x && decide (Γ[i]? = some .fr) && L2.blkC N sc scope (own.map fun i => ((N[i]?).getD ⟨#[]⟩, i)) && ckTg N scope tg t2 && decide (tgS tg = own) && own.all (fun i => decide (Γ[i]? ≠ some .ow) && decide (i < Γ.length)) &&
          ckTs N (L2.relS scope sc) (setAll Γ .fr own) ifs is && firmO (ckE N (L2.relS scope sc) (setAll Γ .fr own) elt e2)) = true then some .nw else none
   | _ => none
  | .meth M o as, e => match M.rcg sc e with
    | some (oe, es) => (match ckE N sc Γ o oe, ckEs N sc Γ as es with
      | some k, some ks => if (quiet k as && escOk M.esc 0 ks) = true then some (if M.nw = true then .nw else .fz) else none
      | _, _ => none)
    | none => none
  | .chain l1 l2 a b c, .Compare ea [o1, o2] [eb, ec] _ => if (ordOp l1 o1 && ordOp l2 o2 && decide (ckE N sc Γ a ea = some .fz) && decide (ckE N sc Γ b eb = some .fz) && (ckE N sc Γ c ec).isSome) = true then some .fz else none
  | _, _ => none
termination_by structural c => c
def ckEs (N : List Str) (sc : Scope) (Γ : List SK) : CEs → List Expr → Option (List Kd)
  | .nil, [] => some []
  | .cons c cs, e :: es => if isStar e = true then none else match ckE N sc Γ c e, ckEs N sc Γ cs es with
    | some k, some ks => if quiet k cs = true then some (k :: ks) else none
    | _, _ => none
  | _, _ => none
termination_by structural c => c
/-- the arguments of a call: what isn't lent is handed over for good -/
def ckAs (N : List Str) (sc : Scope) (Γ : List SK) : List Bool → CAs → List Expr → Bool
  | [], .nil, [] => true
  | false :: l, .val c cs, e :: es => !isStar e && firmO (ckE N sc Γ c e) && ckAs N sc Γ l cs es
  | true :: l, .lent i cs, .Name x _ :: es => decide (N[i]? = some x) && visB sc x && plainName x && decide (Γ[i]? = some .ow) && !notLent i cs && ckAs N sc Γ l cs es
  | _, _, _ => false
termination_by structural _ c => c
def ckT (N : List Str) (sc : Scope) (Γ : List SK) : CE → Expr → Bool
  | .bool op as, .BoolOp o es _ => opIs op o && !es.isEmpty && ckTA N sc Γ as es
  | .not a, .UnaryOp .Not e _ => ckT N sc Γ a e
  | .var i, .Name x _ => decide (N[i]? = some x) && visB sc x && plainName x && (decide (Γ[i]? = some .fr) || decide (Γ[i]? = some .ow))
  | .pr P as, e => (match P.rcg sc e with
    | some es => (match ckEs N sc Γ as es with
      | some ks => escOk P.esc 0 ks && (P.cmp || plainHead e)
      | none => false)
    | none => false)
  | .call f as, .Call (.Name x _) es [] _ => decide (x = f.name) && glB sc x && plainName x && !es.isEmpty && ckAs N sc Γ f.lend as es
  | .meth M o as, e => (match M.rcg sc e with
    | some (oe, es) => (match ckE N sc Γ o oe, ckEs N sc Γ as es with
      | some k, some ks => quiet k as && escOk M.esc 0 ks && plainHead e
      | _, _ => false)
    | none => false)
  | .chain l1 l2 a b c, .Compare ea [o1, o2] [eb, ec] _ => ordOp l1 o1 && ordOp l2 o2 && decide (ckE N sc Γ a ea = some .fz) && decide (ckE N sc Γ b eb = some .fz) && (ckE N sc Γ c ec).isSome
  | .comp P as tg ifs elt own, .ListComp e2 gs scope _ => match oneGen gs with
   | none => false
   | some (t2, it, is) => match P.rcg sc t2 it with
    | some es => (match ckEs N sc Γ as es with
      | some ks => (!isSet it && L2.blkC N sc scope (own.map fun i => ((N[i]?).getD ⟨#[]⟩, i)) && ckTg N scope tg t2 && decide (tgS tg = own) && quietAll ks ifs elt own && own.all (fun i => decide (Γ[i]? ≠ some .ow) && decide (i < Γ.length)) &&
          ckTs N (L2.relS scope sc) (setAll Γ .fr own) ifs is && firmO (ckE N (L2.relS scope sc) (setAll Γ .fr own) elt e2))
      | none => false)
    | none => false
  | _, _ => false
termination_by structural c => c
def ckTA (N : List Str) (sc : Scope) (Γ : List SK) : CEs → List Expr → Bool
  | .nil, [] => true
  | .cons c cs, e :: es => ckT N sc Γ c e && ckTA N sc Γ cs es
  | _, _ => false
termination_by structural c => c
def ckTs (N : List Str) (sc : Scope) (Γ : List SK) : CEs → List Expr → Bool
  | .nil, [] => true
  | .cons c .nil, [e] => ckT N sc Γ c e
  | _, _ => false
termination_by structural c => c
end
end G
end
section
set_option maxRecDepth 10000
/-! How data stand in the heap; the slots; what stays. -/
namespace G
open PySem L2
/-! ### data in the heap. Z: the lists and dicts that nobody changes any more -/
mutual
def Rp (K : PySem.W.Frag) (Z : Addr → Prop) (H : Hp) : D → V → Prop
  | .non, v => v = .non
  | .bl b, v => v = .bl b
  | .int i, v => v = .int i
  | .str s, v => v = .str s
  | .tup ds, v => ∃ a xs, v = .ref a ∧ (∃ o : Obj, H a = some (.frz o (.tup xs)) ∧ o.dict = none) ∧ RpL K Z H ds xs
  | .wtp ds, v => ∃ a xs, v = .ref a ∧ H a = some (.tup xs) ∧ RpL K Z H ds xs
  | .lst ds, v => ∃ a xs, v = .ref a ∧ Z a ∧ H a = some (.lst xs) ∧ RpL K Z H ds xs
  | .dk kvs, v => ∃ a ks, v = .ref a ∧ Z a ∧ Rd H a (.dK ks) ∧ RpK K Z H kvs ks
  | .dt kvs, v => ∃ a ks, v = .ref a ∧ Z a ∧ Rd H a (.dT ks) ∧ RpT K Z H kvs ks
  | .scr ns, v => ∃ a, v = .ref a ∧ ((∃ o : Obj, H a = some (.frz o (.lst (ns.map V.int)))) ∨ SqL K (fun _ => none) a (ns.map V.int))
def RpL (K : PySem.W.Frag) (Z : Addr → Prop) (H : Hp) : List D → List V → Prop
  | [], xs => xs = []
  | d :: ds, xs => ∃ v r, xs = v :: r ∧ Rp K Z H d v ∧ RpL K Z H ds r
def RpK (K : PySem.W.Frag) (Z : Addr → Prop) (H : Hp) : List (Ky × D) → List (Ky × V) → Prop
  | [], xs => xs = []
  | (k, d) :: ds, xs => ∃ v r, xs = (k, v) :: r ∧ Rp K Z H d v ∧ RpK K Z H ds r
def RpT (K : PySem.W.Frag) (Z : Addr → Prop) (H : Hp) : List (List Ky × D) → List (List Ky × V) → Prop
  | [], xs => xs = []
  | (k, d) :: ds, xs => ∃ v r, xs = (k, v) :: r ∧ Rp K Z H d v ∧ RpT K Z H ds r
end
/-- a list or dict of one's own at a -/
def Top (K : PySem.W.Frag) (Z : Addr → Prop) (H : Hp) (a : Addr) : D → Prop
  | .lst ds => ∃ xs, H a = some (.lst xs) ∧ RpL K Z H ds xs
  | .dk kvs => ∃ ks, H a = some (.dK ks) ∧ RpK K Z H kvs ks
  | .dt kvs => ∃ ks, H a = some (.dT ks) ∧ RpT K Z H kvs ks
  | _ => False
/-- what may be read as d -/
def Vw (K : PySem.W.Frag) (Z : Addr → Prop) (H : Hp) (d : D) (v : V) : Prop := Rp K Z H d v ∨ ∃ a, v = .ref a ∧ Top K Z H a d
def isTop : HO → Bool
  | .lst _ => true
  | .dK _ => true
  | .dT _ => true
  | _ => false
/-- the frozen ones and all that is no open list or dict stay -/
structure Mono (Z : Addr → Prop) (H : Hp) (Z1 : Addr → Prop) (H1 : Hp) : Prop where
  zz : ∀ a, Z a → Z1 a
  st : ∀ a o, H a = some o → (Z a ∨ isTop o = false) → H1 a = some o
theorem Mono.refl {Z : Addr → Prop} {H : Hp} : Mono Z H Z H := ⟨fun _ h => h, fun _ _ h _ => h⟩
theorem Mono.trans {Z Z1 Z2 : Addr → Prop} {H H1 H2 : Hp} (a : Mono Z H Z1 H1) (b : Mono Z1 H1 Z2 H2) : Mono Z H Z2 H2 :=
  ⟨fun x h => b.zz x (a.zz x h), fun x o h c => b.st x o (a.st x o h c) (c.imp (a.zz x) id)⟩
/-- what a datum's place in the heap leans on -/
structure Mo (K : PySem.W.Frag) (Z : Addr → Prop) (H : Hp) (Z1 : Addr → Prop) (H1 : Hp) : Prop where
  zz : ∀ a, Z a → Z1 a
  l : ∀ a xs, Z a → H a = some (.lst xs) → H1 a = some (.lst xs)
  k : ∀ a ks, Z a → Rd H a (.dK ks) → Rd H1 a (.dK ks)
  t : ∀ a ks, Z a → Rd H a (.dT ks) → Rd H1 a (.dT ks)
  p : ∀ a xs, H a = some (.tup xs) → H1 a = some (.tup xs)
  pf : ∀ a o xs, H a = some (.frz o (.tup xs)) → H1 a = some (.frz o (.tup xs))
  q : ∀ a o xs, H a = some (.frz o (.lst xs)) → H1 a = some (.frz o (.lst xs))
section
variable {K : PySem.W.Frag} {Z Z1 : Addr → Prop} {H H1 : Hp}
theorem Mono.mo (m : Mono Z H Z1 H1) : Mo K Z H Z1 H1 where
  zz := m.zz
  l := fun a xs z h => m.st _ _ h (.inl z)
  k := fun a ks z h => h.elim (fun h => .inl (m.st _ _ h (.inl z))) fun ⟨o, h⟩ => .inr ⟨o, m.st _ _ h (.inr rfl)⟩
  t := fun a ks z h => h.elim (fun h => .inl (m.st _ _ h (.inl z))) fun ⟨o, h⟩ => .inr ⟨o, m.st _ _ h (.inr rfl)⟩
  p := fun a xs h => m.st _ _ h (.inr rfl)
  pf := fun a o xs h => m.st _ _ h (.inr rfl)
  q := fun a o xs h => m.st _ _ h (.inr rfl)
mutual
theorem Rp.mo (m : Mo K Z H Z1 H1) : ∀ (d : D) (v : V), Rp K Z H d v → Rp K Z1 H1 d v
  | .non, _, h => h
  | .bl _, _, h => h
  | .int _, _, h => h
  | .str _, _, h => h
  | .tup ds, _, ⟨a, xs, e, ⟨o, h1, h3⟩, h2⟩ => ⟨a, xs, e, ⟨o, m.pf _ _ _ h1, h3⟩, RpL.mo m ds xs h2⟩
  | .wtp ds, _, ⟨a, xs, e, h1, h2⟩ => ⟨a, xs, e, m.p _ _ h1, RpL.mo m ds xs h2⟩
  | .lst ds, _, ⟨a, xs, e, z, h1, h2⟩ => ⟨a, xs, e, m.zz a z, m.l _ _ z h1, RpL.mo m ds xs h2⟩
  | .dk kvs, _, ⟨a, ks, e, z, h1, h2⟩ => ⟨a, ks, e, m.zz a z, m.k _ _ z h1, RpK.mo m kvs ks h2⟩
  | .dt kvs, _, ⟨a, ks, e, z, h1, h2⟩ => ⟨a, ks, e, m.zz a z, m.t _ _ z h1, RpT.mo m kvs ks h2⟩
  | .scr ns, _, ⟨a, e, h1⟩ => ⟨a, e, h1.imp (fun ⟨o, h⟩ => ⟨o, m.q _ _ _ h⟩) id⟩
theorem RpL.mo (m : Mo K Z H Z1 H1) : ∀ (ds : List D) (xs : List V), RpL K Z H ds xs → RpL K Z1 H1 ds xs
  | [], _, h => h
  | d :: ds, _, ⟨v, r, e, h1, h2⟩ => ⟨v, r, e, Rp.mo m d v h1, RpL.mo m ds r h2⟩
theorem RpK.mo (m : Mo K Z H Z1 H1) : ∀ (ds : List (Ky × D)) (xs : List (Ky × V)), RpK K Z H ds xs → RpK K Z1 H1 ds xs
  | [], _, h => h
  | (k, d) :: ds, _, ⟨v, r, e, h1, h2⟩ => ⟨v, r, e, Rp.mo m d v h1, RpK.mo m ds r h2⟩
theorem RpT.mo (m : Mo K Z H Z1 H1) : ∀ (ds : List (List Ky × D)) (xs : List (List Ky × V)), RpT K Z H ds xs → RpT K Z1 H1 ds xs
  | [], _, h => h
  | (k, d) :: ds, _, ⟨v, r, e, h1, h2⟩ => ⟨v, r, e, Rp.mo m d v h1, RpT.mo m ds r h2⟩
end
theorem Rp.mono (m : Mono Z H Z1 H1) (d : D) (v : V) (h : Rp K Z H d v) : Rp K Z1 H1 d v := h.mo m.mo
theorem RpL.mono (m : Mono Z H Z1 H1) (d : List D) (v : List V) (h : RpL K Z H d v) : RpL K Z1 H1 d v := h.mo m.mo
theorem RpK.mono (m : Mono Z H Z1 H1) (d : List (Ky × D)) (v : List (Ky × V)) (h : RpK K Z H d v) : RpK K Z1 H1 d v := h.mo m.mo
theorem RpT.mono (m : Mono Z H Z1 H1) (d : List (List Ky × D)) (v : List (List Ky × V)) (h : RpT K Z H d v) : RpT K Z1 H1 d v := h.mo m.mo
theorem Top.mono (m : Mono Z H Z1 H1) {a : Addr} (k : H1 a = H a) : ∀ {d : D}, Top K Z H a d → Top K Z1 H1 a d
  | .lst _, ⟨xs, h, r⟩ => ⟨xs, k.trans h, RpL.mono m _ _ r⟩
  | .dk _, ⟨xs, h, r⟩ => ⟨xs, k.trans h, RpK.mono m _ _ r⟩
  | .dt _, ⟨xs, h, r⟩ => ⟨xs, k.trans h, RpT.mono m _ _ r⟩
theorem Top.at {a : Addr} : ∀ {d : D}, Top K Z H a d → ∃ o, H a = some o ∧ isTop o = true
  | .lst _, ⟨xs, h, r⟩ => ⟨_, h, rfl⟩
  | .dk _, ⟨xs, h, r⟩ => ⟨_, h, rfl⟩
  | .dt _, ⟨xs, h, r⟩ => ⟨_, h, rfl⟩
/-- it is given away -/
theorem Top.give {a : Addr} (z : Z a) : ∀ {d : D}, Top K Z H a d → Rp K Z H d (.ref a)
  | .lst _, ⟨xs, h, r⟩ => ⟨a, xs, rfl, z, h, r⟩
  | .dk _, ⟨xs, h, r⟩ => ⟨a, xs, rfl, z, .inl h, r⟩
  | .dt _, ⟨xs, h, r⟩ => ⟨a, xs, rfl, z, .inl h, r⟩
/-! lists by places -/
theorem RpL.len : ∀ {ds : List D} {xs : List V}, RpL K Z H ds xs → ds.length = xs.length
  | [], _, h => by rw [show _ = [] from h]; rfl
  | d :: ds, _, ⟨v, r, e, _, h2⟩ => by rw [e, List.length_cons, List.length_cons, RpL.len h2]
theorem RpL.get : ∀ {ds : List D} {xs : List V} {i : Nat} {d : D}, RpL K Z H ds xs → ds[i]? = some d → ∃ v, xs[i]? = some v ∧ Rp K Z H d v
  | [], _, _, _, _, e => by simp at e
  | d :: ds, _, 0, _, ⟨v, r, e, h1, h2⟩, q => by
    simp at q; subst q; subst e
    exact ⟨v, rfl, h1⟩
  | d :: ds, _, i + 1, _, ⟨v, r, e, h1, h2⟩, q => by
    subst e
    obtain ⟨u, hu, ru⟩ := RpL.get (i := i) h2 (by simpa using q)
    exact ⟨u, by simpa using hu, ru⟩
theorem RpL.of : ∀ {ds : List D} {xs : List V}, ds.length = xs.length → (∀ (i : Nat) (d : D) (v : V), ds[i]? = some d → xs[i]? = some v → Rp K Z H d v) → RpL K Z H ds xs
  | [], [], _, _ => rfl
  | [], _ :: _, e, _ => by simp at e
  | _ :: _, [], e, _ => by simp at e
  | d :: ds, v :: r, e, h => ⟨v, r, rfl, h 0 d v rfl rfl, RpL.of (by simpa using e) fun i d' v' h1 h2 => h (i + 1) d' v' (by simpa using h1) (by simpa using h2)⟩
theorem RpL.at {ds : List D} {xs : List V} (h : RpL K Z H ds xs) (i : Nat) (d : D) (v : V) (h1 : ds[i]? = some d) (h2 : xs[i]? = some v) : Rp K Z H d v := by
  obtain ⟨u, hu, ru⟩ := h.get h1
  rw [h2] at hu; cases hu; exact ru
theorem RpL.append : ∀ {ds es : List D} {xs ys : List V}, RpL K Z H ds xs → RpL K Z H es ys → RpL K Z H (ds ++ es) (xs ++ ys)
  | [], _, _, _, h, h' => by rw [show _ = [] from h]; exact h'
  | d :: ds, es, _, ys, ⟨v, r, e, h1, h2⟩, h' => by subst e; exact ⟨v, r ++ ys, rfl, h1, RpL.append h2 h'⟩
theorem RpL.one {d : D} {v : V} (h : Rp K Z H d v) : RpL K Z H [d] [v] := ⟨v, [], rfl, h, rfl⟩
theorem RpL.take {ds : List D} {xs : List V} (n : Nat) (h : RpL K Z H ds xs) : RpL K Z H (ds.take n) (xs.take n) :=
  RpL.of (by rw [List.length_take, List.length_take, h.len]) fun i d v h1 h2 => by
    rw [List.getElem?_take] at h1 h2
    split at h1
    · rename_i hi
      rw [if_pos hi] at h2
      exact h.at i d v h1 h2
    · cases h1
theorem RpL.drop {ds : List D} {xs : List V} (n : Nat) (h : RpL K Z H ds xs) : RpL K Z H (ds.drop n) (xs.drop n) :=
  RpL.of (by rw [List.length_drop, List.length_drop, h.len]) fun i d v h1 h2 => by
    rw [List.getElem?_drop] at h1 h2
    exact h.at _ d v h1 h2
theorem RpL.set {ds : List D} {xs : List V} {d : D} {v : V} (i : Nat) (h : RpL K Z H ds xs) (r : Rp K Z H d v) : RpL K Z H (ds.set i d) (xs.set i v) :=
  RpL.of (by rw [List.length_set, List.length_set, h.len]) fun j d' v' h1 h2 => by
    by_cases e : i = j
    · subst e
      have hl : i < ds.length := by
        have := (List.getElem?_eq_some_iff.mp h1).1
        rwa [List.length_set] at this
      rw [List.getElem?_set_self hl] at h1
      rw [List.getElem?_set_self (by rw [← h.len]; exact hl)] at h2
      cases h1; cases h2; exact r
    · rw [List.getElem?_set_ne e] at h1 h2
      exact h.at j d' v' h1 h2
theorem RpL.reverse {ds : List D} {xs : List V} (h : RpL K Z H ds xs) : RpL K Z H ds.reverse xs.reverse :=
  RpL.of (by rw [List.length_reverse, List.length_reverse, h.len]) fun i d v h1 h2 => by
    have hl : i < ds.length := by
      have := (List.getElem?_eq_some_iff.mp h1).1
      rwa [List.length_reverse] at this
    rw [List.getElem?_reverse hl] at h1
    rw [List.getElem?_reverse (by rw [← h.len]; exact hl), ← h.len] at h2
    exact h.at _ d v h1 h2
theorem RpL.isEmpty {ds : List D} {xs : List V} (h : RpL K Z H ds xs) : ds.isEmpty = xs.isEmpty := by
  have := h.len
  cases ds <;> cases xs <;> simp_all
/-! views -/
theorem Vw.lst {ds : List D} {v : V} (h : Vw K Z H (.lst ds) v) : ∃ a xs, v = .ref a ∧ H a = some (.lst xs) ∧ RpL K Z H ds xs := by
  rcases h with ⟨a, xs, e, _, h1, h2⟩ | ⟨a, e, xs, h1, h2⟩
  · exact ⟨a, xs, e, h1, h2⟩
  · exact ⟨a, xs, e, h1, h2⟩
theorem Vw.tupX {ds : List D} {v : V} (h : Vw K Z H (.tup ds) v) : ∃ a xs, v = .ref a ∧ (∃ o : Obj, H a = some (.frz o (.tup xs)) ∧ o.dict = none) ∧ RpL K Z H ds xs := by
  rcases h with ⟨a, xs, e, h1, h2⟩ | ⟨a, e, h⟩
  · exact ⟨a, xs, e, h1, h2⟩
  · exact h.elim
theorem Vw.tup {ds : List D} {v : V} (h : Vw K Z H (.tup ds) v) : ∃ a xs, v = .ref a ∧ SqT K H a xs ∧ RpL K Z H ds xs := by
  obtain ⟨a, xs, e, ⟨o, h1, _⟩, h2⟩ := h.tupX
  exact ⟨a, xs, e, .inl (.inr ⟨o, h1⟩), h2⟩
theorem Vw.wtp {ds : List D} {v : V} (h : Vw K Z H (.wtp ds) v) : ∃ a xs, v = .ref a ∧ SqT K H a xs ∧ RpL K Z H ds xs := by
  rcases h with ⟨a, xs, e, h1, h2⟩ | ⟨a, e, h⟩
  · exact ⟨a, xs, e, .of h1, h2⟩
  · exact h.elim
theorem sq_none {a : Addr} {xs : List V} (h : SqL K (fun _ => none) a xs) : SqL K H a xs := by
  rcases h with h | h
  · rcases h with h | ⟨o, h⟩ <;> cases h
  · exact .inr h
theorem Vw.scr {ns : List Int} {v : V} (h : Vw K Z H (.scr ns) v) : ∃ a, v = .ref a ∧ SqL K H a (ns.map V.int) := by
  rcases h with ⟨a, e, h1⟩ | ⟨a, e, h⟩
  · refine ⟨a, e, ?_⟩
    rcases h1 with ⟨o, h1⟩ | h1
    · exact .inl (.inr ⟨o, h1⟩)
    · exact sq_none h1
  · exact h.elim
theorem Vw.int {i : Int} {v : V} (h : Vw K Z H (.int i) v) : v = .int i := h.elim id fun ⟨_, _, h⟩ => h.elim
theorem Vw.str {x : Str} {v : V} (h : Vw K Z H (.str x) v) : v = .str x := h.elim id fun ⟨_, _, h⟩ => h.elim
theorem Vw.bl {x : Bool} {v : V} (h : Vw K Z H (.bl x) v) : v = .bl x := h.elim id fun ⟨_, _, h⟩ => h.elim
theorem Vw.non {v : V} (h : Vw K Z H .non v) : v = .non := h.elim id fun ⟨_, _, h⟩ => h.elim
theorem Vw.dk {ds : List (Ky × D)} {v : V} (h : Vw K Z H (.dk ds) v) : ∃ a ks, v = .ref a ∧ Rd H a (.dK ks) ∧ RpK K Z H ds ks := by
  rcases h with ⟨a, xs, e, _, h1, h2⟩ | ⟨a, e, xs, h1, h2⟩
  · exact ⟨a, xs, e, h1, h2⟩
  · exact ⟨a, xs, e, .inl h1, h2⟩
theorem Vw.dt {ds : List (List Ky × D)} {v : V} (h : Vw K Z H (.dt ds) v) : ∃ a ks, v = .ref a ∧ Rd H a (.dT ks) ∧ RpT K Z H ds ks := by
  rcases h with ⟨a, xs, e, _, h1, h2⟩ | ⟨a, e, xs, h1, h2⟩
  · exact ⟨a, xs, e, h1, h2⟩
  · exact ⟨a, xs, e, .inl h1, h2⟩
theorem RpK.isEmpty : ∀ {ds : List (Ky × D)} {ks : List (Ky × V)}, RpK K Z H ds ks → ds.isEmpty = ks.isEmpty
  | [], _, h => by
    rw [show _ = [] from h]
    rfl
  | (k, d) :: _, _, ⟨v, r, e, _, _⟩ => by rw [e]; rfl
theorem RpT.isEmpty : ∀ {ds : List (List Ky × D)} {ks : List (List Ky × V)}, RpT K Z H ds ks → ds.isEmpty = ks.isEmpty
  | [], _, h => by
    rw [show _ = [] from h]
    rfl
  | (k, d) :: _, _, ⟨v, r, e, _, _⟩ => by rw [e]; rfl
end
/-! ### what is fixed through a law -/
structure Cn where
  prog : Program
  w : World
  K : PySem.W.Frag
  mg : Str → Option Value
  base : Heap
def cn (X : Cx) : Cn := ⟨X.prog, X.w, X.K, X.mg, X.base⟩
/-- the class of a refusal -/
def xa (mg : Str → Option Value) (x : Ex) : Addr := match mg x.name with
  | some (.ref a) => a
  | _ => 0
/-- where one stands: names N, scope sc, room for k calls, W: what is wanted of a refusal -/
structure XOk (C : Cn) (N : List Str) (sc : Scope) (k : Nat) (W : WX) (X : Cx) : Prop where
  cn : C = cn X
  N : N = X.N
  nd : X.N.Nodup
  sc : sc = X.env.scope
  calm : X.calm = true
  room : Room k X.A
  tk : Takes X W
/-- a slot's own list or dict stands at a -/
def Own (Γ : List SK) (c : St) (a : Addr) : Prop := ∃ i : Nat, Γ[i]? = some .ow ∧ c[i]? = some (some (.ref a))
/-- the slots hold the data s -/
structure Env (K : PySem.W.Frag) (Z : Addr → Prop) (H : Hp) (Γ : List SK) (s : Sg) (c : St) : Prop where
  len : s.length = c.length ∧ Γ.length = c.length
  zd : ∀ a, Z a → H a ≠ none
  fr : ∀ i : Nat, Γ[i]? = some .fr → ∃ v, c[i]? = some (some v) ∧ Rp K Z H (gt s i) v
  ow : ∀ i : Nat, Γ[i]? = some .ow → ∃ a, c[i]? = some (some (.ref a)) ∧ ¬ Z a ∧ Top K Z H a (gt s i)
  inj : ∀ (i j : Nat) (a : Addr), Γ[i]? = some .ow → Γ[j]? = some .ow → c[i]? = some (some (.ref a)) → c[j]? = some (some (.ref a)) → i = j
section
variable {K : PySem.W.Frag} {Z Z1 Z2 : Addr → Prop} {H H1 H2 : Hp} {Γ : List SK} {s s1 s2 : Sg} {c : St}
theorem Env.own (e : Env K Z H Γ s c) {a : Addr} (h : Own Γ c a) : ¬ Z a ∧ ∃ o, H a = some o ∧ isTop o = true := by
  obtain ⟨i, h1, h2⟩ := h
  obtain ⟨b, h3, h4, h5⟩ := e.ow i h1
  rw [h2] at h3; cases h3
  exact ⟨h4, h5.at⟩
/-- behind an expression: no slot is stored, the own lists may have other items -/
structure PostE (K : PySem.W.Frag) (Z : Addr → Prop) (H : Hp) (Γ : List SK) (c : St) (s1 : Sg) (Z1 : Addr → Prop) (H1 : Hp) : Prop where
  zz : ∀ a, Z a → Z1 a
  zn : ∀ a, Z1 a → Z a ∨ H a = none
  pr : ∀ a o, H a = some o → ¬ Own Γ c a → H1 a = some o
  env : Env K Z1 H1 Γ s1 c
theorem PostE.mono (e : Env K Z H Γ s c) (p : PostE K Z H Γ c s1 Z1 H1) : Mono Z H Z1 H1 := ⟨p.zz, fun a o h q => p.pr a o h fun w => by
  obtain ⟨h1, o', h2, h3⟩ := e.own w
  rw [h] at h2; cases h2
  rcases q with q | q
  · exact h1 q
  · rw [q] at h3; cases h3⟩
theorem PostE.refl (e : Env K Z H Γ s c) : PostE K Z H Γ c s Z H := ⟨fun _ h => h, fun _ h => .inl h, fun _ _ h _ => h, e⟩
theorem PostE.trans (e : Env K Z H Γ s c) (p : PostE K Z H Γ c s1 Z1 H1) (q : PostE K Z1 H1 Γ c s2 Z2 H2) : PostE K Z H Γ c s2 Z2 H2 := by
  refine ⟨fun a h => q.zz a (p.zz a h), fun a h => ?_, fun a o h w => q.pr a o (p.pr a o h w) w, q.env⟩
  rcases q.zn a h with h1 | h1
  · exact p.zn a h1
  · cases e0 : H a with
    | none => exact .inr rfl
    | some o =>
      by_cases w : Own Γ c a
      · obtain ⟨_, o', h2, _⟩ := p.env.own w
        rw [h1] at h2; cases h2
      · rw [p.pr a o e0 w] at h1; cases h1
/-- a value of the kind k, made since (Z, H) -/
def KV (K : PySem.W.Frag) (k : Kd) (H : Hp) (Γ : List SK) (c : St) (s1 : Sg) (Z1 : Addr → Prop) (H1 : Hp) (d : D) (v : V) : Prop := match k with
  | .fz => Rp K Z1 H1 d v
  | .nw => ∃ a, v = .ref a ∧ H a = none ∧ ¬ Z1 a ∧ ¬ Own Γ c a ∧ Top K Z1 H1 a d
  | .bo i => Γ[i]? = some .ow ∧ c[i]? = some (some v) ∧ d = gt s1 i
theorem KV.vw {k : Kd} {d : D} {v : V} (e : Env K Z1 H1 Γ s1 c) (h : KV K k H Γ c s1 Z1 H1 d v) : Vw K Z1 H1 d v := by
  cases k with
  | fz => exact .inl h
  | nw =>
    obtain ⟨a, rfl, _, _, _, t⟩ := h
    exact .inr ⟨a, rfl, t⟩
  | bo i =>
    obtain ⟨h1, h2, rfl⟩ := h
    obtain ⟨a, h3, _, t⟩ := e.ow i h1
    rw [h2] at h3; cases h3
    exact .inr ⟨a, rfl, t⟩
/-- a value waits while more is done -/
theorem KV.wait {H0 : Hp} {k : Kd} {d : D} {v : V} (e : Env K Z1 H1 Γ s1 c) (p : PostE K Z1 H1 Γ c s2 Z2 H2) (q : ∀ i, k = .bo i → gt s2 i = gt s1 i) (h : KV K k H0 Γ c s1 Z1 H1 d v) : KV K k H0 Γ c s2 Z2 H2 d v := by
  cases k with
  | fz => exact Rp.mono (p.mono e) _ _ h
  | nw =>
    obtain ⟨a, h1, h2, h3, h4, h5⟩ := h
    obtain ⟨o, ho, _⟩ := h5.at
    refine ⟨a, h1, h2, fun z => ?_, h4, h5.mono (p.mono e) ((p.pr a o ho h4).trans ho.symm)⟩
    rcases p.zn a z with z | z
    · exact h3 z
    · rw [ho] at z; cases z
  | bo i =>
    obtain ⟨h1, h2, h3⟩ := h
    exact ⟨h1, h2, h3.trans (q i rfl).symm⟩
/-- what is new is given away -/
theorem KV.give {H0 : Hp} {k : Kd} {d : D} {v : V} (e : Env K Z1 H1 Γ s1 c) (hk : k.firm = true) (h : KV K k H0 Γ c s1 Z1 H1 d v) :
    ∃ Z2 : Addr → Prop, (∀ a, Z1 a → Z2 a) ∧ (∀ a, Z2 a → Z1 a ∨ H0 a = none) ∧ (∀ a, Z2 a → H1 a ≠ none) ∧ (∀ a, Z2 a → ¬ Own Γ c a) ∧ Rp K Z2 H1 d v := by
  cases k with
  | fz => exact ⟨Z1, fun _ h => h, fun _ h => .inl h, e.zd, fun a z w => (e.own w).1 z, h⟩
  | nw =>
    obtain ⟨a, h1, h2, h3, h4, h5⟩ := h
    subst h1
    refine ⟨fun b => Z1 b ∨ b = a, fun _ h => .inl h, fun b h => h.imp id fun q => by rw [q]; exact h2, fun b h => ?_, fun b h w => ?_, ?_⟩
    · rcases h with h | rfl
      · exact e.zd b h
      · obtain ⟨o, ho, _⟩ := h5.at
        rw [ho]; exact fun z => nomatch z
    · rcases h with h | rfl
      · exact (e.own w).1 h
      · exact h4 w
    · exact (h5.mono (Z1 := fun b => Z1 b ∨ b = a) ⟨fun _ h => .inl h, fun _ _ h _ => h⟩ rfl).give (.inr rfl)
  | bo i => cases hk
theorem Env.grow (e : Env K Z H Γ s c) (zz : ∀ a, Z a → Z1 a) (zd : ∀ a, Z1 a → H a ≠ none) (zo : ∀ a, Z1 a → ¬ Own Γ c a) : Env K Z1 H Γ s c := by
  have m : Mono Z H Z1 H := ⟨zz, fun _ _ h _ => h⟩
  refine ⟨e.len, zd, fun i h => ?_, fun i h => ?_, e.inj⟩
  · obtain ⟨v, h1, h2⟩ := e.fr i h
    exact ⟨v, h1, Rp.mono m _ _ h2⟩
  · obtain ⟨a, h1, _, h2⟩ := e.ow i h
    exact ⟨a, h1, fun z => zo a z ⟨i, h, h1⟩, h2.mono m rfl⟩
/-- new objects are laid beside -/
theorem Env.more (e : Env K Z H Γ s c) (zz : ∀ a, Z a → Z1 a) (zn : ∀ a, Z1 a → Z a ∨ H a = none) (zd : ∀ a, Z1 a → H1 a ≠ none) (pr : ∀ a o, H a = some o → H1 a = some o) : Env K Z1 H1 Γ s c := by
  have m : Mono Z H Z1 H1 := ⟨zz, fun a o h _ => pr a o h⟩
  refine ⟨e.len, zd, fun i h => ?_, fun i h => ?_, e.inj⟩
  · obtain ⟨v, h1, h2⟩ := e.fr i h
    exact ⟨v, h1, Rp.mono m _ _ h2⟩
  · obtain ⟨a, h1, h3, h2⟩ := e.ow i h
    obtain ⟨o, ho, _⟩ := h2.at
    refine ⟨a, h1, fun z => ?_, h2.mono m ((pr a o ho).trans ho.symm)⟩
    rcases zn a z with z | z
    · exact h3 z
    · rw [ho] at z; cases z
end
/-! ### readings -/
/-- an expression's -/
def tE (C : Cn) (W : WX) (Γ : List SK) (e : CE) (k : Kd) : TE := fun c H Q => ∃ Z s, Env C.K Z H Γ s c ∧ match evE e s with
  | .ok d s1 => ∀ v H1 Z1, PostE C.K Z H Γ c s1 Z1 H1 → KV C.K k H Γ c s1 Z1 H1 d v → Q v H1
  | .exc x s1 => ∀ H1 Z1, PostE C.K Z H Γ c s1 Z1 H1 → W (.ref (xa C.mg x)) none c H1
  | .stuck => False
def tT (C : Cn) (W : WX) (Γ : List SK) (e : CE) : TT := fun c H Q => ∃ Z s, Env C.K Z H Γ s c ∧ match evT e s with
  | .ok b s1 => ∀ H1 Z1, PostE C.K Z H Γ c s1 Z1 H1 → Q b H1
  | .exc x s1 => ∀ H1 Z1, PostE C.K Z H Γ c s1 Z1 H1 → W (.ref (xa C.mg x)) none c H1
  | .stuck => False
/-- values of these kinds -/
def KVs (K : PySem.W.Frag) (H : Hp) (Γ : List SK) (c : St) (s1 : Sg) (Z1 : Addr → Prop) (H1 : Hp) : List Kd → List D → List V → Prop
  | [], ds, vs => ds = [] ∧ vs = []
  | k :: ks, ds, vs => ∃ d dr v vr, ds = d :: dr ∧ vs = v :: vr ∧ KV K k H Γ c s1 Z1 H1 d v ∧ KVs K H Γ c s1 Z1 H1 ks dr vr
/-- where the new ones among them stand -/
def nwA : List Kd → List V → List Addr
  | .nw :: ks, .ref a :: vs => a :: nwA ks vs
  | _ :: ks, _ :: vs => nwA ks vs
  | _, _ => []
def tEs (C : Cn) (W : WX) (Γ : List SK) (es : CEs) (ks : List Kd) : TA := fun c H Q => ∃ Z s, Env C.K Z H Γ s c ∧ match evEs es s with
  | .ok ds s1 => ∀ vs H1 Z1, PostE C.K Z H Γ c s1 Z1 H1 → KVs C.K H Γ c s1 Z1 H1 ks ds vs → (nwA ks vs).Nodup → Q vs H1
  | .exc x s1 => ∀ H1 Z1, PostE C.K Z H Γ c s1 Z1 H1 → W (.ref (xa C.mg x)) none c H1
  | .stuck => False
/-- a reading may be asked more -/
theorem PE.weak {X : Cx} {e : Expr} {t u : TE} (h : PE X e t) (q : ∀ c H Q, u c H Q → t c H Q) : PE X e u := ⟨fun pins s σ H Q I w => h.run pins s σ H Q I (q σ H Q w)⟩
theorem PT.weak {X : Cx} {e : Expr} {t u : TT} (h : PT X e t) (q : ∀ c H Q, u c H Q → t c H Q) : PT X e u := ⟨fun pins s σ H Q I w => h.run pins s σ H Q I (q σ H Q w)⟩
theorem PA.weak {X : Cx} {e : List Expr} {t u : TA} (h : PA X e t) (q : ∀ c H Q, u c H Q → t c H Q) : PA X e u := ⟨fun pos pins s σ H Q I w => h.run pos pins s σ H Q I (q σ H Q w)⟩
theorem PS.weak {X : Cx} {e : Stmt} {t u : TS} (h : PS X e t) (q : ∀ D c H, u D c H → t D c H) : PS X e u := ⟨fun pins s σ H D I w => h.run pins s σ H D I (q D σ H w)⟩
theorem PSs.weak {X : Cx} {e : List Stmt} {t u : TS} (h : PSs X e t) (q : ∀ D c H, u D c H → t D c H) : PSs X e u := ⟨fun pins s σ H D I w => h.run pins s σ H D I (q D σ H w)⟩
theorem PI.weak {X : Cx} {tg e : Expr} {t u : TI} (h : PI X tg e t) (q : ∀ c H R, u c H R → t c H R) : PI X tg e u := ⟨fun pins s σ H R I w => h.run pins s σ H R I (q σ H R w)⟩
end G
namespace G
open PySem L2
theorem Top.mo {K : PySem.W.Frag} {Z Z1 : Addr → Prop} {H H1 : Hp} (m : Mo K Z H Z1 H1) {a : Addr} (k : H1 a = H a) : ∀ {d : D}, Top K Z H a d → Top K Z1 H1 a d
  | .lst _, ⟨xs, h, r⟩ => ⟨xs, k.trans h, RpL.mo m _ _ r⟩
  | .dk _, ⟨xs, h, r⟩ => ⟨xs, k.trans h, RpK.mo m _ _ r⟩
  | .dt _, ⟨xs, h, r⟩ => ⟨xs, k.trans h, RpT.mo m _ _ r⟩
theorem Env.mo {K : PySem.W.Frag} {Z Z1 : Addr → Prop} {H H1 : Hp} {Γ : List SK} {s : Sg} {c : St} (e : Env K Z H Γ s c) (m : Mo K Z H Z1 H1) (zd : ∀ a, Z1 a → H1 a ≠ none) (ow : ∀ a, Own Γ c a → H1 a = H a ∧ ¬ Z1 a) : Env K Z1 H1 Γ s c := by
  refine ⟨e.len, zd, fun i h => ?_, fun i h => ?_, e.inj⟩
  · obtain ⟨v, h1, h2⟩ := e.fr i h
    exact ⟨v, h1, h2.mo m⟩
  · obtain ⟨a, h1, h2, h3⟩ := e.ow i h
    obtain ⟨w1, w2⟩ := ow a ⟨i, h, h1⟩
    exact ⟨a, h1, w2, h3.mo m w1⟩
end G
end
section
set_option maxRecDepth 10000
/-! Parts in a row; strict things; calls. -/
namespace G
open PySem L2
def PEs (X : Cx) : List Expr → List TE → Prop
  | [], [] => True
  | e :: es, t :: ts => PE X e t ∧ PEs X es ts
  | _, _ => False
def tAll : List TE → TA
  | [] => tNil
  | t :: ts => tCons t (tAll ts)
abbrev noStar (es : List Expr) : Bool := noStarB es
theorem star_no {e : Expr} {es : List Expr} {env : PySem.Env} (h : isStar e = false) : starEach (e :: es) env = (false, eval e env) :: starEach es env := by
  cases e <;> first | rfl | cases h
theorem noStar_cons {e : Expr} {es : List Expr} (h : noStar (e :: es) = true) : isStar e = false ∧ noStar es = true := by
  have h : ((!isStar e) && noStar es) = true := h
  rw [Bool.and_eq_true, Bool.not_eq_true'] at h
  exact h
theorem noStar_any {es : List Expr} {env : PySem.Env} {pos : Pos} (h : noStar es = true) : (backTo pos (starEach es env)).any (·.1) = false := by
  have : ∀ es : List Expr, noStar es = true → (starEach es env).any (·.1) = false := by
    intro es
    induction es with
    | nil => intro _; rfl
    | cons e r ih =>
      intro h
      obtain ⟨h1, h2⟩ := noStar_cons h
      rw [star_no h1, List.any_cons, ih h2]
      rfl
  have h2 := this es h
  unfold backTo
  cases es with
  | nil => rfl
  | cons e r =>
    simp only [List.any_map, List.any_eq_false] at h2 ⊢
    intro x hx
    exact h2 x hx
theorem PEs.pa {X : Cx} : ∀ {es : List Expr} {ts : List TE}, PEs X es ts → noStar es = true → PA X es (tAll ts)
  | [], [], _, _ => pa_nil
  | e :: es, t :: ts, ⟨h1, h2⟩, hs => by
    obtain ⟨s1, s2⟩ := noStar_cons hs
    exact pa_cons h1 (PEs.pa h2 s2) (star_no s1)
  | [], _ :: _, h, _ => h.elim
  | _ :: _, [], h, _ => h.elim
/-- the values of a strict thing's parts: what it keeps is frozen -/
def Args (K : PySem.W.Frag) (Z : Addr → Prop) (H : Hp) (esc : Nat → Bool) : Nat → List D → List V → Prop
  | _, [], vs => vs = []
  | j, d :: ds, vs => ∃ v r, vs = v :: r ∧ (if esc j = true then Rp K Z H d v else Vw K Z H d v) ∧ Args K Z H esc (j + 1) ds r
structure PRes (K : PySem.W.Frag) (nw : Bool) (Z : Addr → Prop) (H : Hp) (d : D) (v : V) (Z1 : Addr → Prop) (H1 : Hp) : Prop where
  zz : ∀ a, Z a → Z1 a
  zn : ∀ a, Z1 a → Z a ∨ H a = none
  zd : ∀ a, Z1 a → H1 a ≠ none
  pr : ∀ a o, H a = some o → H1 a = some o
  val : if nw = true then ∃ a, v = .ref a ∧ H a = none ∧ ¬ Z1 a ∧ Top K Z1 H1 a d else Rp K Z1 H1 d v
def tP (C : Cn) (P : Pr) (t : TA) : TE := fun c H Q => t c H fun vs H1 => ∃ Z ds d, (∀ a, Z a → H1 a ≠ none) ∧ Args C.K Z H1 P.esc 0 ds vs ∧ P.sem ds = some d ∧ ∀ v H2 Z2, PRes C.K P.nw Z H1 d v Z2 H2 → Q v H2
/-- the thing does in the model what it is told to -/
structure Pr.Ok (C : Cn) (P : Pr) : Prop where
  pe : ∀ {N : List Str} {sc : Scope} {k : Nat} {W : WX} {X : Cx}, XOk C N sc k W X → ∀ {e : Expr} {es : List Expr} {ts : List TE}, P.rcg sc e = some es → PEs X es ts → noStar es = true → PE X e (tP C P (tAll ts))
  nc : ∀ {sc : Scope} {e : Expr} {es : List Expr}, P.rcg sc e = some es → isComp e = false
  bl : P.cmp = true → P.nw = false ∧ ∀ ds d, P.sem ds = some d → ∃ b, d = .bl b
  pt : P.cmp = true → ∀ {N : List Str} {sc : Scope} {k : Nat} {W : WX} {X : Cx}, XOk C N sc k W X → ∀ {e : Expr} {es : List Expr} {ts : List TE}, P.rcg sc e = some es → PEs X es ts → noStar es = true → PT X e (tB (tP C P (tAll ts)))
section
variable {K : PySem.W.Frag} {Z Z1 Z2 : Addr → Prop} {H H1 H2 : Hp} {Γ : List SK} {s s1 s2 : Sg} {c : St}
theorem PostE.none (e : Env K Z H Γ s c) (p : PostE K Z H Γ c s1 Z1 H1) {a : Addr} (h : H1 a = none) : H a = none := by
  cases e0 : H a with
  | none => rfl
  | some o =>
    by_cases w : Own Γ c a
    · obtain ⟨_, o', h2, _⟩ := p.env.own w
      rw [h] at h2; cases h2
    · rw [p.pr a o e0 w] at h; cases h
theorem Vw.mono (m : Mono Z H Z1 H1) (k : ∀ a o, H a = some o → H1 a = some o) {d : D} {v : V} (h : Vw K Z H d v) : Vw K Z1 H1 d v := by
  rcases h with h | ⟨a, e, t⟩
  · exact .inl (Rp.mono m _ _ h)
  · obtain ⟨o, ho, _⟩ := t.at
    exact .inr ⟨a, e, t.mono m ((k a o ho).trans ho.symm)⟩
/-- what is kept is given away -/
theorem KVs.args {H0 : Hp} (esc : Nat → Bool) : ∀ {ks : List Kd} {ds : List D} {vs : List V} {j : Nat} {Z1 : Addr → Prop}, Env K Z1 H1 Γ s1 c → KVs K H0 Γ c s1 Z1 H1 ks ds vs → escOk esc j ks = true →
    ∃ Z2 : Addr → Prop, (∀ a, Z1 a → Z2 a) ∧ (∀ a, Z2 a → Z1 a ∨ H0 a = Option.none) ∧ (∀ a, Z2 a → H1 a ≠ Option.none) ∧ (∀ a, Z2 a → ¬ Own Γ c a) ∧ Args K Z2 H1 esc j ds vs
  | [], _, _, _, Z1, e, ⟨h1, h2⟩, _ => by
    subst h1; subst h2
    exact ⟨Z1, fun _ h => h, fun _ h => .inl h, e.zd, fun a z w => (e.own w).1 z, rfl⟩
  | k :: ks, _, _, j, Z1, e, ⟨d, dr, v, vr, e1, e2, h1, h2⟩, hk => by
    subst e1; subst e2
    have hk : ((!esc j || k.firm) && escOk esc (j + 1) ks) = true := hk
    rw [Bool.and_eq_true] at hk
    obtain ⟨hj, hr⟩ := hk
    obtain ⟨Z2, z1, z2, z3, z4, ha⟩ := KVs.args esc e h2 hr
    cases hej : esc j with
    | false =>
      refine ⟨Z2, z1, z2, z3, z4, v, vr, rfl, ?_, ha⟩
      rw [hej, if_neg Bool.false_ne_true]
      exact (h1.vw e).mono ⟨z1, fun _ _ h _ => h⟩ fun _ _ h => h
    | true =>
      rw [hej] at hj
      obtain ⟨Z3, y1, y2, y3, y4, hb⟩ := h1.give e (by simpa using hj)
      refine ⟨fun a => Z2 a ∨ Z3 a, fun a h => .inl (z1 a h), fun a h => h.elim (z2 a) (y2 a), fun a h => h.elim (z3 a) (y3 a), fun a h => h.elim (z4 a) (y4 a), v, vr, rfl, ?_, ?_⟩
      · rw [hej, if_pos rfl]
        exact Rp.mono ⟨fun a h => .inr h, fun _ _ h _ => h⟩ _ _ hb
      · have mo : ∀ (j : Nat) (ds : List D) (vs : List V), Args K Z2 H1 esc j ds vs → Args K (fun a => Z2 a ∨ Z3 a) H1 esc j ds vs := by
          intro j ds
          induction ds generalizing j with
          | nil => intro vs h; exact h
          | cons d ds ih =>
            rintro vs ⟨v, r, e, h1, h2⟩
            refine ⟨v, r, e, ?_, ih _ _ h2⟩
            split
            · rename_i q
              rw [if_pos q] at h1
              exact Rp.mono ⟨fun a h => .inl h, fun _ _ h _ => h⟩ _ _ h1
            · rename_i q
              rw [if_neg q] at h1
              exact h1.mono ⟨fun a h => .inl h, fun _ _ h _ => h⟩ fun _ _ h => h
        exact mo _ _ _ ha
/-- behind a strict thing -/
theorem PRes.post {nw : Bool} {d : D} {v : V} {Z3 : Addr → Prop} (e : Env K Z H Γ s c) (p : PostE K Z H Γ c s1 Z1 H1)
    (z1 : ∀ a, Z1 a → Z2 a) (z2 : ∀ a, Z2 a → Z1 a ∨ H a = Option.none) (z3 : ∀ a, Z2 a → H1 a ≠ Option.none) (z4 : ∀ a, Z2 a → ¬ Own Γ c a) (r : PRes K nw Z2 H1 d v Z3 H2) :
    PostE K Z H Γ c s1 Z3 H2 ∧ KV K (if nw = true then .nw else .fz) H Γ c s1 Z3 H2 d v := by
  have e2 : Env K Z2 H1 Γ s1 c := p.env.grow z1 z3 z4
  have e3 : Env K Z3 H2 Γ s1 c := e2.more r.zz r.zn r.zd r.pr
  refine ⟨⟨fun a h => r.zz a (z1 a (p.zz a h)), fun a h => ?_, fun a o h w => r.pr a o (p.pr a o h w), e3⟩, ?_⟩
  · rcases r.zn a h with h | h
    · rcases z2 a h with h | h
      · exact p.zn a h
      · exact .inr h
    · exact .inr (p.none e h)
  · cases nw with
    | false =>
      have q := r.val
      rw [if_neg Bool.false_ne_true] at q
      exact q
    | true =>
      have q := r.val
      rw [if_pos rfl] at q
      obtain ⟨a, h1, h2, h3, h4⟩ := q
      refine ⟨a, h1, p.none e h2, h3, fun w => ?_, h4⟩
      obtain ⟨_, o, ho, _⟩ := p.env.own w
      rw [h2] at ho; cases ho
end
/-- from the parts' reading to the strict thing's -/
theorem pr_sound {C : Cn} {W : WX} {Γ : List SK} {P : Pr} {as : CEs} {ks : List Kd} {ts : List TE} (hk : escOk P.esc 0 ks = true) (h : ∀ c H R, tEs C W Γ as ks c H R → tAll ts c H R) :
    ∀ c H Q, tE C W Γ (.pr P as) (if P.nw = true then .nw else .fz) c H Q → tP C P (tAll ts) c H Q := by
  rintro c H Q ⟨Z, s, env, q⟩
  refine h c H _ ⟨Z, s, env, ?_⟩
  have ev : evE (.pr P as) s = (evEs as s).bind fun ds s1 => optD (P.sem ds) s1 := rfl
  rw [ev] at q
  cases e1 : evEs as s with
  | stuck => rw [e1] at q; exact q
  | exc x s1 => rw [e1] at q; exact q
  | ok ds s1 =>
    rw [e1] at q
    intro vs H1 Z1 p kv _
    obtain ⟨Z2, z1, z2, z3, z4, ha⟩ := KVs.args P.esc p.env kv hk
    have q : match optD (P.sem ds) s1 with
      | .ok d s1 => ∀ v H1 Z1, PostE C.K Z H Γ c s1 Z1 H1 → KV C.K (if P.nw = true then .nw else .fz) H Γ c s1 Z1 H1 d v → Q v H1
      | .exc x s1 => ∀ H1 Z1, PostE C.K Z H Γ c s1 Z1 H1 → W (.ref (xa C.mg x)) none c H1
      | .stuck => False := q
    cases e2 : P.sem ds with
    | none => rw [e2] at q; exact q.elim
    | some d =>
      rw [e2] at q
      refine ⟨Z2, ds, d, z3, ha, e2, fun v H2 Z3 r => ?_⟩
      obtain ⟨h1, h2⟩ := r.post env p z1 z2 z3 z4
      exact q v H2 Z3 h1 h2
/-! ### calls -/
/-- the arguments as a def takes them -/
def LArgs (K : PySem.W.Frag) (Z : Addr → Prop) (H : Hp) : List Bool → List D → List V → Prop
  | [], ds, vs => ds = [] ∧ vs = []
  | b :: l, ds, vs => ∃ d dr v vr, ds = d :: dr ∧ vs = v :: vr ∧ (if b = true then ∃ a, v = .ref a ∧ ¬ Z a ∧ Top K Z H a d else Rp K Z H d v) ∧ LArgs K Z H l dr vr
/-- where the lent ones stand -/
def lents : List Bool → List V → List Addr
  | true :: l, .ref a :: vs => a :: lents l vs
  | _ :: l, _ :: vs => lents l vs
  | _, _ => []
/-- the lent ones behind the call -/
def LOuts (K : PySem.W.Frag) (Z : Addr → Prop) (H : Hp) : List Addr → List D → Prop
  | [], os => os = []
  | a :: l, os => ∃ o r, os = o :: r ∧ ¬ Z a ∧ Top K Z H a o ∧ LOuts K Z H l r
structure PostC (K : PySem.W.Frag) (ls : List Addr) (Z : Addr → Prop) (H : Hp) (o : List D) (Z1 : Addr → Prop) (H1 : Hp) : Prop where
  zz : ∀ a, Z a → Z1 a
  zn : ∀ a, Z1 a → Z a ∨ H a = none
  zd : ∀ a, Z1 a → H1 a ≠ none
  pr : ∀ a u, H a = some u → a ∉ ls → H1 a = some u
  outs : LOuts K Z1 H1 ls o
def KF (K : PySem.W.Frag) (nw : Bool) (H : Hp) (Z1 : Addr → Prop) (H1 : Hp) (d : D) (v : V) : Prop :=
  if nw = true then ∃ a, v = .ref a ∧ H a = none ∧ ¬ Z1 a ∧ Top K Z1 H1 a d else Rp K Z1 H1 d v
/-- a def's promise, from what it comes to -/
def spOf (C : Cn) (F : Fn) : Sp := fun vs H Q E => ∃ Z ds, (∀ a, Z a → H a ≠ none) ∧ LArgs C.K Z H F.lend ds vs ∧ (lents F.lend vs).Nodup ∧ match F.sem ds with
  | .ret d o => ∀ v H1 Z1, PostC C.K (lents F.lend vs) Z H o Z1 H1 → KF C.K F.nw H Z1 H1 d v → Q v H1
  | .exc x o => ∀ H1 Z1, PostC C.K (lents F.lend vs) Z H o Z1 H1 → E (.ref (xa C.mg x)) none H1
  | .stuck => False
/-- the def stands in the text and keeps its promise -/
def FnGood (C : Cn) (k : Nat) (F : Fn) : Prop := ∃ (f : Addr) (fd : FuncData) (ps : List Str), FnOk C.prog C.w C.K C.mg C.base (L2.CX C.prog C.w) k f fd ps (spOf C F) ∧ C.mg F.name = some (.ref f) ∧ PySem.W.keepIn C.K (.ref f) = true ∧ Binds C.K fd ps []
theorem FnGood.mono {C : Cn} {j k : Nat} {F : Fn} (h : FnGood C j F) (l : j ≤ k) : FnGood C k F := let ⟨f, fd, ps, a, b⟩ := h; ⟨f, fd, ps, a.mono l, b⟩
/-- the arguments' values at the call: what isn't lent is firm -/
def AKV (K : PySem.W.Frag) (H : Hp) (Γ : List SK) (c : St) (s1 : Sg) (Z1 : Addr → Prop) (H1 : Hp) : CAs → List D → List V → Prop
  | .nil, ds, vs => ds = [] ∧ vs = []
  | .val _ r, ds, vs => ∃ d dr v vr k, ds = d :: dr ∧ vs = v :: vr ∧ k.firm = true ∧ KV K k H Γ c s1 Z1 H1 d v ∧ AKV K H Γ c s1 Z1 H1 r dr vr
  | .lent i r, ds, vs => ∃ v vr, vs = v :: vr ∧ Γ[i]? = some .ow ∧ c[i]? = some (some v) ∧ AKV K H Γ c s1 Z1 H1 r ds vr
def tAs (C : Cn) (W : WX) (Γ : List SK) (as : CAs) : TA := fun c H Q => ∃ Z s, Env C.K Z H Γ s c ∧ match evAs as s with
  | .ok ds s1 => ∀ vs H1 Z1, PostE C.K Z H Γ c s1 Z1 H1 → AKV C.K H Γ c s1 Z1 H1 as ds vs → Q vs H1
  | .exc x s1 => ∀ H1 Z1, PostE C.K Z H Γ c s1 Z1 H1 → W (.ref (xa C.mg x)) none c H1
  | .stuck => False
/-- the slots that are lent -/
def lentS : CAs → List Nat
  | .nil => []
  | .val _ r => lentS r
  | .lent i r => i :: lentS r
/-- flags and arguments fit, no slot is lent twice -/
def fits : List Bool → CAs → Bool
  | [], .nil => true
  | false :: l, .val _ r => fits l r
  | true :: l, .lent i r => !notLent i r && fits l r
  | _, _ => false
theorem notLent_mem {i : Nat} : ∀ {r : CAs}, notLent i r = false → i ∉ lentS r
  | .nil, _ => by simp [lentS]
  | .val _ r, h => notLent_mem (r := r) h
  | .lent j r, h => by
    have h : (decide (i = j) || notLent i r) = false := h
    rw [Bool.or_eq_false_iff] at h
    have h2 := notLent_mem (r := r) h.2
    have h1 : ¬ i = j := by simpa using h.1
    simp [lentS, h1, h2]
section
variable {K : PySem.W.Frag} {Z Z1 Z2 : Addr → Prop} {H H1 H2 : Hp} {Γ : List SK} {s s1 s2 : Sg} {c : St}
theorem LArgs.mono {K : PySem.W.Frag} {Z Z2 : Addr → Prop} {H : Hp} (z : ∀ a, Z a → Z2 a) : ∀ {l : List Bool} {ds : List D} {vs : List V}, (∀ a ∈ lents l vs, ¬ Z2 a) → LArgs K Z H l ds vs → LArgs K Z2 H l ds vs
  | [], _, _, _, h => h
  | true :: l, _, _, hn, ⟨d, dr, v, vr, e1, e2, h1, h2⟩ => by
    subst e1; subst e2
    rw [if_pos rfl] at h1
    obtain ⟨a, e, za, t⟩ := h1
    subst e
    refine ⟨d, dr, _, vr, rfl, rfl, ?_, LArgs.mono z (fun b hb => hn b (List.mem_cons_of_mem _ hb)) h2⟩
    rw [if_pos rfl]
    exact ⟨a, rfl, hn a List.mem_cons_self, t.mono ⟨z, fun _ _ h _ => h⟩ rfl⟩
  | false :: l, _, _, hn, ⟨d, dr, v, vr, e1, e2, h1, h2⟩ => by
    subst e1; subst e2
    rw [if_neg Bool.false_ne_true] at h1
    have hl : lents (false :: l) (v :: vr) = lents l vr := by cases v <;> rfl
    rw [hl] at hn
    refine ⟨d, dr, _, vr, rfl, rfl, ?_, LArgs.mono z hn h2⟩
    rw [if_neg Bool.false_ne_true]
    exact Rp.mono ⟨z, fun _ _ h _ => h⟩ _ _ h1
/-- the arguments are handed over -/
theorem AKV.give {H0 : Hp} : ∀ {l : List Bool} {as : CAs} {ds : List D} {vs : List V} {Z1 : Addr → Prop}, Env K Z1 H1 Γ s1 c → AKV K H0 Γ c s1 Z1 H1 as ds vs → fits l as = true →
    ∃ Z2 : Addr → Prop, (∀ a, Z1 a → Z2 a) ∧ (∀ a, Z2 a → Z1 a ∨ H0 a = Option.none) ∧ (∀ a, Z2 a → H1 a ≠ Option.none) ∧ (∀ a, Z2 a → ¬ Own Γ c a) ∧ LArgs K Z2 H1 l (fill as ds s1) vs ∧
      (∀ a ∈ lents l vs, ∃ i ∈ lentS as, Γ[i]? = some .ow ∧ c[i]? = some (some (.ref a))) ∧ (lents l vs).Nodup
  | [], .nil, _, _, Z1, e, ⟨h1, h2⟩, _ => by
    subst h1; subst h2
    exact ⟨Z1, fun _ h => h, fun _ h => .inl h, e.zd, fun a z w => (e.own w).1 z, ⟨rfl, rfl⟩, fun a ha => by simp [lents] at ha, List.nodup_nil⟩
  | false :: l, .val _ r, _, _, Z1, e, ⟨d, dr, v, vr, k, e1, e2, hk, h1, h2⟩, hf => by
    subst e1; subst e2
    obtain ⟨Z2, z1, z2, z3, z4, ha, hb, hc⟩ := AKV.give (l := l) e h2 hf
    obtain ⟨Z3, y1, y2, y3, y4, hr⟩ := h1.give e hk
    have hl : lents (false :: l) (v :: vr) = lents l vr := by cases v <;> rfl
    have hno : ∀ a ∈ lents l vr, ¬ (Z2 a ∨ Z3 a) := fun a hm w => by
      obtain ⟨i, _, h3, h4⟩ := hb a hm
      exact w.elim (fun w => z4 a w ⟨i, h3, h4⟩) fun w => y4 a w ⟨i, h3, h4⟩
    refine ⟨fun a => Z2 a ∨ Z3 a, fun a h => .inl (z1 a h), fun a h => h.elim (z2 a) (y2 a), fun a h => h.elim (z3 a) (y3 a), fun a h => h.elim (z4 a) (y4 a), ?_, ?_, ?_⟩
    · refine ⟨d, _, v, vr, rfl, rfl, ?_, LArgs.mono (fun a h => .inl h) hno ha⟩
      rw [if_neg Bool.false_ne_true]
      exact Rp.mono ⟨fun a h => .inr h, fun _ _ h _ => h⟩ _ _ hr
    · rw [hl]; exact hb
    · rw [hl]; exact hc
  | true :: l, .lent i r, ds, _, Z1, e, ⟨v, vr, e2, h1, h3, h2⟩, hf => by
    subst e2
    have hf : (!notLent i r && fits l r) = true := hf
    rw [Bool.and_eq_true, Bool.not_eq_true'] at hf
    obtain ⟨Z2, z1, z2, z3, z4, ha, hb, hc⟩ := AKV.give (l := l) e h2 hf.2
    obtain ⟨a, e3, _, t⟩ := e.ow i h1
    rw [h3] at e3; cases e3
    have own : Own Γ c a := ⟨i, h1, h3⟩
    refine ⟨Z2, z1, z2, z3, z4, ?_, ?_, ?_⟩
    · refine ⟨gt s1 i, _, _, vr, rfl, rfl, ?_, ha⟩
      rw [if_pos rfl]
      exact ⟨a, rfl, fun z => z4 a z own, t.mono ⟨z1, fun _ _ h _ => h⟩ rfl⟩
    · intro b hm
      rcases List.mem_cons.mp hm with q | hm
      · subst q
        exact ⟨i, List.mem_cons_self, h1, h3⟩
      · obtain ⟨j, hj, h4, h5⟩ := hb b hm
        exact ⟨j, List.mem_cons_of_mem _ hj, h4, h5⟩
    · refine List.nodup_cons.mpr ⟨fun hm => ?_, hc⟩
      obtain ⟨j, hj, h4, h5⟩ := hb a hm
      have := e.inj i j a h1 h4 h3 h5
      subst this
      exact notLent_mem hf.1 hj
  | [], .val _ _, _, _, _, _, _, h => by cases h
  | [], .lent _ _, _, _, _, _, _, h => by cases h
  | true :: _, .nil, _, _, _, _, _, h => by cases h
  | true :: _, .val _ _, _, _, _, _, _, h => by cases h
  | false :: _, .nil, _, _, _, _, _, h => by cases h
  | false :: _, .lent _ _, _, _, _, _, _, h => by cases h
theorem gt_set_ne {s : Sg} {i j : Nat} {d : D} (h : i ≠ j) : gt (s.set i d) j = gt s j := by
  unfold gt
  rw [List.getElem?_set_ne h]
theorem gt_set_eq {s : Sg} {i : Nat} {d : D} (h : i < s.length) : gt (s.set i d) i = d := by
  unfold gt
  rw [List.getElem?_set_self h]
  rfl
theorem putB_len : ∀ (as : CAs) (o s : Sg), (putB as o s).length = s.length
  | .nil, _, _ => rfl
  | .val _ r, o, s => putB_len r o s
  | .lent i r, [], s => rfl
  | .lent i r, d :: o, s => by
    show (putB r o (s.set i d)).length = _
    rw [putB_len r o, List.length_set]
theorem putB_out {i : Nat} : ∀ {as : CAs} {o s : Sg}, i ∉ lentS as → gt (putB as o s) i = gt s i
  | .nil, _, _, _ => rfl
  | .val _ r, o, s, h => putB_out (as := r) h
  | .lent j r, [], s, h => rfl
  | .lent j r, d :: o, s, h => by
    have h1 : ¬ i = j ∧ i ∉ lentS r := by simpa [lentS] using h
    show gt (putB r o (s.set j d)) i = _
    rw [putB_out h1.2, gt_set_ne (Ne.symm h1.1)]
theorem AKV.lentOw {H0 : Hp} : ∀ {as : CAs} {ds : List D} {vs : List V}, AKV K H0 Γ c s1 Z1 H1 as ds vs → ∀ i ∈ lentS as, Γ[i]? = some .ow
  | .nil, _, _, _, i, hi => by simp [lentS] at hi
  | .val e r, _, _, ⟨d, dr, v, vr, kd, _, _, _, _, h⟩, i, hi => AKV.lentOw (as := r) h i hi
  | .lent j r, ds, _, ⟨v, vr, _, h1, _, h⟩, i, hi => by
    rcases List.mem_cons.mp hi with q | hi
    · rw [q]; exact h1
    · exact AKV.lentOw (as := r) h i hi
/-- the slots that were lent hold what came out -/
theorem outs_env (e : Env K Z H Γ s1 c) {H0 : Hp} : ∀ {l : List Bool} {as : CAs} {ds : List D} {vs : List V} {o : List D} {s : Sg}, fits l as = true → AKV K H0 Γ c s1 Z H as ds vs → (∀ i ∈ lentS as, i < s.length) → LOuts K Z2 H2 (lents l vs) o →
    ∀ i ∈ lentS as, ∃ a, c[i]? = some (some (.ref a)) ∧ ¬ Z2 a ∧ Top K Z2 H2 a (gt (putB as o s) i)
  | [], .nil, _, _, _, _, _, _, _, _, i, hi => by simp [lentS] at hi
  | false :: l, .val _ r, _, _, o, s, hf, ⟨d, dr, v, vr, k, e1, e2, hk, h1, h2⟩, hl, ho, i, hi => by
    subst e1; subst e2
    have e3 : lents (false :: l) (v :: vr) = lents l vr := by cases v <;> rfl
    rw [e3] at ho
    exact outs_env e (l := l) hf h2 hl ho i hi
  | true :: l, .lent j r, ds, _, o, s, hf, ⟨v, vr, e2, h1, h3, h2⟩, hl, ho, i, hi => by
    subst e2
    have hf : (!notLent j r && fits l r) = true := hf
    rw [Bool.and_eq_true, Bool.not_eq_true'] at hf
    obtain ⟨a, h4, _, _⟩ := e.ow j h1
    rw [h3] at h4; cases h4
    obtain ⟨d, o', e4, h5, h6, h7⟩ := ho
    subst e4
    have hjl : j < s.length := hl j List.mem_cons_self
    rcases List.mem_cons.mp hi with q | hi
    · subst q
      refine ⟨a, h3, h5, ?_⟩
      show Top K Z2 H2 a (gt (putB r o' (s.set i d)) i)
      rw [putB_out (notLent_mem hf.1), gt_set_eq hjl]
      exact h6
    · exact outs_env e (l := l) hf.2 h2 (fun i hi => by rw [List.length_set]; exact hl i (List.mem_cons_of_mem _ hi)) h7 i hi
  | [], .val _ _, _, _, _, _, h, _, _, _, _, _ => by cases h
  | [], .lent _ _, _, _, _, _, h, _, _, _, _, _ => by cases h
  | true :: _, .nil, _, _, _, _, h, _, _, _, _, _ => by cases h
  | true :: _, .val _ _, _, _, _, _, h, _, _, _, _, _ => by cases h
  | false :: _, .nil, _, _, _, _, h, _, _, _, _, _ => by cases h
  | false :: _, .lent _ _, _, _, _, _, h, _, _, _, _, _ => by cases h
end
end G
end
section
set_option maxRecDepth 10000
/-! Calls, and, or, not, pop, names: each reading from its parts'. -/
namespace G
open PySem L2
section
variable {C : Cn} {N : List Str} {sc : Scope} {k : Nat} {W : WX} {X : Cx} {Γ : List SK}
theorem visB_vis {sc : Scope} {x : Str} (h : visB sc x = true) : Vis sc x := by
  unfold visB at h
  unfold Vis
  split at h <;> first | (rename_i e; rw [e]; simp) | cases h
theorem locB_loc {sc : Scope} {x : Str} (h : locB sc x = true) : L2.Loc sc x := by
  unfold locB at h
  unfold L2.Loc
  split at h <;> first | (rename_i e; rw [e]; simp) | cases h
theorem glB_gl {x : Str} (h : glB X.env.scope x = true) : Gl X x := by
  unfold glB at h
  unfold Gl
  show X.env.scope.names.lookup x = _
  split at h <;> first | assumption | cases h
theorem plainName_ne {x : Str} (h : plainName x = true) : (x == ("__debug__" : Str)) = false ∧ (x == ("__classdict__" : Str)) = false := by
  unfold plainName at h
  rw [Bool.and_eq_true] at h
  exact ⟨by simpa [bne] using h.1, by simpa [bne] using h.2⟩
theorem var_raw (hX : XOk C N sc k W X) {i : Nat} {x : Str} {pos : Pos} (h : (decide (N[i]? = some x) && visB sc x && plainName x) = true) : PE X (.Name x pos) (tVar i) := by
  rw [Bool.and_eq_true, Bool.and_eq_true, decide_eq_true_eq] at h
  obtain ⟨⟨h1, h2⟩, h3⟩ := h
  obtain ⟨p1, p2⟩ := plainName_ne h3
  exact pe_var (by rw [← hX.N]; exact h1) (by rw [← hX.sc]; exact visB_vis h2) p1 p2
theorem var_sound (hX : XOk C N sc k W X) {i : Nat} {x : Str} {pos : Pos} {kd : Kd} (h : (decide (N[i]? = some x) && visB sc x && plainName x) = true)
    (hk : (Γ[i]? = some .fr ∧ kd = .fz) ∨ (Γ[i]? = some .ow ∧ kd = .bo i)) : PE X (.Name x pos) (tE C W Γ (.var i) kd) := by
  refine PE.weak (var_raw hX h) fun c H Q => ?_
  rintro ⟨Z, s, env, q⟩
  have q : ∀ v H1 Z1, PostE C.K Z H Γ c s Z1 H1 → KV C.K kd H Γ c s Z1 H1 (gt s i) v → Q v H1 := q
  rcases hk with ⟨h1, rfl⟩ | ⟨h1, rfl⟩
  · obtain ⟨v, h2, h3⟩ := env.fr i h1
    exact ⟨v, h2, q v H Z (.refl env) h3⟩
  · obtain ⟨a, h2, _, h3⟩ := env.ow i h1
    exact ⟨_, h2, q _ H Z (.refl env) ⟨h1, h2, rfl⟩⟩
/-- parts, one after another -/
theorem cons_sound {a : CE} {as : CEs} {kd : Kd} {ks : List Kd} {t : TE} {ts : List TE} (ht : ∀ (i : Nat) (s s1 : Sg), kd = .bo i → ∀ ds, evEs as s = .ok ds s1 → gt s1 i = gt s i)
    (h1 : ∀ c H Q, tE C W Γ a kd c H Q → t c H Q) (h2 : ∀ c H R, tEs C W Γ as ks c H R → tAll ts c H R) :
    ∀ c H R, tEs C W Γ (.cons a as) (kd :: ks) c H R → tAll (t :: ts) c H R := by
  rintro c H R ⟨Z, s, env, q⟩
  refine h1 c H _ ⟨Z, s, env, ?_⟩
  have ev : evEs (.cons a as) s = (evE a s).bind fun d s1 => (evEs as s1).bind fun ds s2 => .ok (d :: ds) s2 := rfl
  rw [ev] at q
  cases e1 : evE a s with
  | stuck => rw [e1] at q; exact q
  | exc x s1 => rw [e1] at q; exact q
  | ok d s1 =>
    rw [e1, Out.bind_ok] at q
    intro v H1 Z1 p kv
    refine h2 c H1 _ ⟨Z1, s1, p.env, ?_⟩
    cases e2 : evEs as s1 with
    | stuck => rw [e2] at q; exact q
    | exc x s2 =>
      rw [e2] at q
      exact fun H2 Z2 p2 => q H2 Z2 (p.trans env p2)
    | ok ds s2 =>
      rw [e2] at q
      intro vs H2 Z2 p2 kvs nd
      have nw2 : ∀ (ks : List Kd) (ds : List D) (vs : List V), KVs C.K H1 Γ c s2 Z2 H2 ks ds vs → ∀ a ∈ nwA ks vs, H1 a = none := by
        intro ks
        induction ks with
        | nil =>
          rintro ds vs ⟨_, rfl⟩ a ha
          simp [nwA] at ha
        | cons kd ks ih =>
          rintro ds vs ⟨d, dr, v, vr, e1, e2, h1, h2⟩ a ha
          subst e2
          cases kd with
          | nw =>
            obtain ⟨b, x1, x2, x3⟩ := h1
            subst x1
            rcases List.mem_cons.mp ha with z | z
            · rw [z]; exact x2
            · exact ih _ _ h2 a z
          | fz => exact ih _ _ h2 a (by cases v <;> exact ha)
          | bo i => exact ih _ _ h2 a (by cases v <;> exact ha)
      refine q _ H2 Z2 (p.trans env p2) ⟨d, ds, v, vs, rfl, rfl, kv.wait p.env p2 fun i hi => ht i s1 s2 hi ds e2, ?_⟩ ?_
      rotate_left
      · cases kd with
        | nw =>
          obtain ⟨b, x1, x2, x3, x4, x5⟩ := kv
          subst x1
          obtain ⟨o, ho, _⟩ := x5.at
          refine List.nodup_cons.mpr ⟨fun hm => ?_, nd⟩
          rw [nw2 _ _ _ kvs b hm] at ho
          cases ho
        | fz => cases v <;> exact nd
        | bo i => cases v <;> exact nd
      have older : ∀ (ks : List Kd) (ds : List D) (vs : List V), KVs C.K H1 Γ c s2 Z2 H2 ks ds vs → KVs C.K H Γ c s2 Z2 H2 ks ds vs := by
        intro ks
        induction ks with
        | nil => intro ds vs h; exact h
        | cons kd ks ih =>
          rintro ds vs ⟨d, dr, v, vr, e1, e2, h1, h2⟩
          refine ⟨d, dr, v, vr, e1, e2, ?_, ih _ _ h2⟩
          cases kd with
          | fz => exact h1
          | nw =>
            obtain ⟨a, x1, x2, x3⟩ := h1
            exact ⟨a, x1, p.none env x2, x3⟩
          | bo i => exact h1
      exact older _ _ _ kvs
theorem nil_sound : ∀ c H R, tEs C W Γ .nil [] c H R → tAll [] c H R := by
  rintro c H R ⟨Z, s, env, q⟩
  exact q [] H Z (.refl env) ⟨rfl, rfl⟩ List.nodup_nil
theorem KV.older {K : PySem.W.Frag} {Z Z1 : Addr → Prop} {H H1 H2 : Hp} {Z2 : Addr → Prop} {s s1 s2 : Sg} {c : St} {kd : Kd} {d : D} {v : V} (env : Env K Z H Γ s c) (p : PostE K Z H Γ c s1 Z1 H1) (h : KV K kd H1 Γ c s2 Z2 H2 d v) : KV K kd H Γ c s2 Z2 H2 d v := by
  cases kd with
  | fz => exact h
  | nw =>
    obtain ⟨a, x1, x2, x3⟩ := h
    exact ⟨a, x1, p.none env x2, x3⟩
  | bo i => exact h
/-! ### truth -/
theorem Vw.tru {K : PySem.W.Frag} {Z : Addr → Prop} {H : Hp} {d : D} {v : V} {b : Bool} (h : Vw K Z H d v) (e : tru d = some b) : TruV K v H b := by
  cases d with
  | non => rw [h.non]; cases e; rfl
  | bl x => rw [h.bl]; cases e; rfl
  | int i => rw [h.int]; cases e; rfl
  | str x =>
    rw [h.str]
    have e : (if x.length ≤ sizeLine then some (x.length != 0) else none) = some b := e
    split at e
    · cases e
      refine ⟨by assumption, ?_⟩
      rw [Bool.eq_iff_iff]
      simp
    · cases e
  | tup ds =>
    obtain ⟨a, xs, rfl, h1, h2⟩ := h.tup
    cases e
    exact .inr (.inl ⟨xs, h1, by rw [h2.isEmpty]⟩)
  | wtp ds =>
    obtain ⟨a, xs, rfl, h1, h2⟩ := h.wtp
    cases e
    exact .inr (.inl ⟨xs, h1, by rw [h2.isEmpty]⟩)
  | lst ds =>
    obtain ⟨a, xs, rfl, h1, h2⟩ := h.lst
    cases e
    exact .inl ⟨xs, .of h1, by rw [h2.isEmpty]⟩
  | dk ds => cases e
  | dt ds => cases e
  | scr ns =>
    obtain ⟨a, rfl, h1⟩ := h.scr
    cases e
    refine .inl ⟨_, h1, ?_⟩
    cases ns <;> rfl
end
end G
end
section
set_option maxRecDepth 10000
/-! Calls; and, or, not; pop; if .. else. -/
namespace G
open PySem L2
section
variable {C : Cn} {N : List Str} {sc : Scope} {k : Nat} {W : WX} {X : Cx} {Γ : List SK}
/-- behind a call -/
theorem PostC.post {K : PySem.W.Frag} {Z Z1 Z2 Z3 : Addr → Prop} {H H1 H2 : Hp} {s s1 : Sg} {c : St} {l : List Bool} {as : CAs} {ds : List D} {vs : List V} {o : List D} (env : Env K Z H Γ s c) (p : PostE K Z H Γ c s1 Z1 H1)
    (hf : fits l as = true) (akv : AKV K H Γ c s1 Z1 H1 as ds vs)
    (z1 : ∀ a, Z1 a → Z2 a) (z2 : ∀ a, Z2 a → Z1 a ∨ H a = none) (z3 : ∀ a, Z2 a → H1 a ≠ none) (z4 : ∀ a, Z2 a → ¬ Own Γ c a)
    (hl : ∀ a ∈ lents l vs, ∃ i ∈ lentS as, Γ[i]? = some .ow ∧ c[i]? = some (some (.ref a))) (r : PostC K (lents l vs) Z2 H1 o Z3 H2) : PostE K Z H Γ c (putB as o s1) Z3 H2 := by
  have e2 : Env K Z2 H1 Γ s1 c := p.env.grow z1 z3 z4
  have lown : ∀ a ∈ lents l vs, Own Γ c a := fun a ha => let ⟨i, _, h1, h2⟩ := hl a ha; ⟨i, h1, h2⟩
  have m : Mono Z2 H1 Z3 H2 := ⟨r.zz, fun a u h q => r.pr a u h fun hm => by
    obtain ⟨h1, u', h2, h3⟩ := e2.own (lown a hm)
    rw [h] at h2; cases h2
    rcases q with q | q
    · exact h1 q
    · rw [q] at h3; cases h3⟩
  have lentOw : ∀ i ∈ lentS as, Γ[i]? = some .ow := akv.lentOw
  have e1 : Env K Z1 H1 Γ s1 c := p.env
  have sl : ∀ i ∈ lentS as, i < s1.length := fun i hi => by
    have h1 := (List.getElem?_eq_some_iff.mp (lentOw i hi)).1
    rw [e1.len.1, ← e1.len.2]
    exact h1
  have outs := outs_env e1 (l := l) hf akv sl r.outs
  refine ⟨fun a h => r.zz a (z1 a (p.zz a h)), fun a h => ?_, fun a u h w => r.pr a u (p.pr a u h w) fun hm => w (lown a hm), ⟨⟨?_, e1.len.2⟩, r.zd, fun i h => ?_, fun i h => ?_, e1.inj⟩⟩
  · rcases r.zn a h with h | h
    · rcases z2 a h with h | h
      · exact p.zn a h
      · exact .inr h
    · exact .inr (p.none env h)
  · rw [putB_len]; exact e1.len.1
  · obtain ⟨v, h1, h2⟩ := e2.fr i h
    refine ⟨v, h1, ?_⟩
    rw [putB_out fun hi => by have := lentOw i hi; rw [h] at this; cases this]
    exact Rp.mono m _ _ h2
  · by_cases hi : i ∈ lentS as
    · exact outs i hi
    · obtain ⟨a, h1, h2, h3⟩ := e2.ow i h
      obtain ⟨u, hu, _⟩ := h3.at
      have hn : a ∉ lents l vs := fun hm => by
        obtain ⟨j, hj, h4, h5⟩ := hl a hm
        have := e1.inj i j a h h4 h1 h5
        exact hi (this ▸ hj)
      refine ⟨a, h1, fun z => ?_, ?_⟩
      · rcases r.zn a z with z | z
        · exact h2 z
        · rw [hu] at z; cases z
      · rw [putB_out hi]
        exact h3.mono m ((r.pr a u hu hn).trans hu.symm)
/-- the reading of a call's value, from the arguments' -/
theorem call_read {as : CAs} {ts : List TE} {f : Fn} (hf : fits f.lend as = true) (h : ∀ c H R, tAs C W Γ as c H R → tAll ts c H R) {c : St} {H : Hp} {Z : Addr → Prop} {s : Sg} {Q : VK} (env : Env C.K Z H Γ s c)
    (q : match (evAs as s).bind (fun ds s1 => match f.sem (fill as ds s1) with
        | .ret d o => Out.ok d (putB as o s1)
        | .exc x o => .exc x (putB as o s1)
        | .stuck => .stuck) with
      | .ok d s1 => ∀ v H1 Z1, PostE C.K Z H Γ c s1 Z1 H1 → KV C.K (if f.nw = true then .nw else .fz) H Γ c s1 Z1 H1 d v → Q v H1
      | .exc x s1 => ∀ H1 Z1, PostE C.K Z H Γ c s1 Z1 H1 → W (.ref (xa C.mg x)) none c H1
      | .stuck => False) : tCallS (spOf C f) (WE W) (tAll ts) c H Q := by
  refine h c H _ ⟨Z, s, env, ?_⟩
  cases e1 : evAs as s with
  | stuck => rw [e1] at q; exact q
  | exc x s1 => rw [e1] at q; exact q
  | ok ds s1 =>
    rw [e1, Out.bind_ok] at q
    intro vs H1 Z1 p akv
    obtain ⟨Z2, z1, z2, z3, z4, la, lb, lc⟩ := AKV.give (l := f.lend) p.env akv hf
    refine ⟨Z2, _, z3, la, lc, ?_⟩
    cases e2 : f.sem (fill as ds s1) with
    | stuck => rw [e2] at q; exact q
    | exc x o =>
      rw [e2] at q
      intro H2 Z3 r
      exact q H2 Z3 (r.post env p hf akv z1 z2 z3 z4 lb)
    | ret d o =>
      rw [e2] at q
      intro v H2 Z3 r kf
      have post := r.post env p hf akv z1 z2 z3 z4 lb
      refine q v H2 Z3 post ?_
      unfold KF at kf
      cases hn : f.nw with
      | false =>
        rw [hn, if_neg Bool.false_ne_true] at kf
        exact kf
      | true =>
        rw [hn, if_pos rfl] at kf
        obtain ⟨a, h1, h2, h3, h4⟩ := kf
        refine ⟨a, h1, p.none env h2, h3, fun w => ?_, h4⟩
        obtain ⟨_, u, hu, _⟩ := p.env.own w
        rw [h2] at hu; cases hu
theorem call_sound (hX : XOk C N sc k W X) {as : CAs} {ts : List TE} {f : Fn} {x : Str} {p pos : Pos} {e : Expr} {es : List Expr} (hg : FnGood C k f) (hx : x = f.name) (hgl : glB sc x = true) (hpn : plainName x = true) (hf : fits f.lend as = true)
    (h1 : PEs X (e :: es) ts) (h2 : noStar (e :: es) = true) (h : ∀ c H R, tAs C W Γ as c H R → tAll ts c H R) : PE X (.Call (.Name x p) (e :: es) [] pos) (tE C W Γ (.call f as) (if f.nw = true then .nw else .fz)) := by
  obtain ⟨fa, fd, ps, F, hm, kp, b⟩ := hg
  obtain ⟨s1, s2⟩ := noStar_cons h2
  have hc := hX.cn
  subst hc
  subst hx
  refine PE.weak (pe_callS (E := WE W) F hX.room (glB_gl (by rw [← hX.sc]; exact hgl)) hm kp b (fun σ => passAt hX.tk σ) (h1.pa h2) (plainName_ne hpn).1 (star_no s1) (noStar_any s2)) fun c H Q => ?_
  rintro ⟨Z, s, env, q⟩
  exact call_read hf h env q
/-! ### not -/
theorem not_sound (hX : XOk C N sc k W X) {a : CE} {kd : Kd} {e : Expr} {pos : Pos} (h : PE X e (tE C W Γ a kd)) : PE X (.UnaryOp .Not e pos) (tE C W Γ (.not a) .fz) := by
  have hc := hX.cn
  subst hc
  refine PE.weak (pe_notT h) fun c H Q => ?_
  rintro ⟨Z, s, env, q⟩
  refine ⟨Z, s, env, ?_⟩
  have ev : evE (.not a) s = (evE a s).bind fun d s1 => (optB (tru d) s1).bind fun b s2 => .ok (.bl (!b)) s2 := rfl
  rw [ev] at q
  cases e1 : evE a s with
  | stuck => rw [e1] at q; exact q
  | exc x s1 => rw [e1] at q; exact q
  | ok d s1 =>
    rw [e1, Out.bind_ok] at q
    intro v H1 Z1 p kv
    cases e2 : tru d with
    | none => rw [e2] at q; exact q.elim
    | some b =>
      rw [e2] at q
      exact ⟨b, (kv.vw p.env).tru e2, q _ H1 Z1 p rfl⟩
/-! ### and, or as values -/
theorem bool_one (hX : XOk C N sc k W X) {op : Bool} {o : BoolOp} {a : CE} {e : Expr} {pos : Pos} (h : PE X e (tE C W Γ a .fz)) : PE X (.BoolOp o [e] pos) (fun c H Q => ∃ Z s, Env C.K Z H Γ s c ∧ match evB op (.cons a .nil) s with
      | .ok d s1 => ∀ v H1 Z1, PostE C.K Z H Γ c s1 Z1 H1 → KV C.K .fz H Γ c s1 Z1 H1 d v → Q v H1
      | .exc x s1 => ∀ H1 Z1, PostE C.K Z H Γ c s1 Z1 H1 → W (.ref (xa C.mg x)) none c H1
      | .stuck => False) := pe_one h
theorem bool_cons (hX : XOk C N sc k W X) {op : Bool} {o : BoolOp} {a : CE} {b : CE} {cs : CEs} {e e2 : Expr} {es : List Expr} {pos : Pos} (ho : opIs op o = true) (h : PE X e (tE C W Γ a .fz)) (h2 : PE X (.BoolOp o (e2 :: es) pos) (fun c H Q => ∃ Z s, Env C.K Z H Γ s c ∧ match evB op (.cons b cs) s with
      | .ok d s1 => ∀ v H1 Z1, PostE C.K Z H Γ c s1 Z1 H1 → KV C.K .fz H Γ c s1 Z1 H1 d v → Q v H1
      | .exc x s1 => ∀ H1 Z1, PostE C.K Z H Γ c s1 Z1 H1 → W (.ref (xa C.mg x)) none c H1
      | .stuck => False)) : PE X (.BoolOp o (e :: e2 :: es) pos) (fun c H Q => ∃ Z s, Env C.K Z H Γ s c ∧ match evB op (.cons a (.cons b cs)) s with
      | .ok d s1 => ∀ v H1 Z1, PostE C.K Z H Γ c s1 Z1 H1 → KV C.K .fz H Γ c s1 Z1 H1 d v → Q v H1
      | .exc x s1 => ∀ H1 Z1, PostE C.K Z H Γ c s1 Z1 H1 → W (.ref (xa C.mg x)) none c H1
      | .stuck => False) := by
  have hc := hX.cn
  subst hc
  have ev : ∀ s, evB op (.cons a (.cons b cs)) s = (evE a s).bind fun d s1 => (optB (tru d) s1).bind fun t s2 => if t = op then evB op (.cons b cs) s2 else .ok d s2 := fun s => by cases op <;> rfl
  cases o with
  | And =>
    cases op with
    | false => cases ho
    | true =>
      refine PE.weak (pe_andT h h2) fun c H Q => ?_
      rintro ⟨Z, s, env, q⟩
      refine ⟨Z, s, env, ?_⟩
      rw [ev] at q
      cases e1 : evE a s with
      | stuck => rw [e1] at q; exact q
      | exc x s1 => rw [e1] at q; exact q
      | ok d s1 =>
        rw [e1, Out.bind_ok] at q
        intro v H1 Z1 p kv
        cases e2 : tru d with
        | none => rw [e2] at q; exact q.elim
        | some t =>
          rw [e2, optB_some, Out.bind_ok] at q
          refine ⟨t, (kv.vw p.env).tru e2, ?_⟩
          cases t with
          | false =>
            rw [if_neg Bool.false_ne_true]
            rw [if_neg Bool.false_ne_true] at q
            exact q v H1 Z1 p kv
          | true =>
            rw [if_pos rfl]
            rw [if_pos rfl] at q
            refine ⟨Z1, s1, p.env, ?_⟩
            cases e3 : evB true (.cons b cs) s1 with
            | stuck => rw [e3] at q; exact q
            | exc x s2 => rw [e3] at q; exact fun H2 Z2 p2 => q H2 Z2 (p.trans env p2)
            | ok d2 s2 => rw [e3] at q; exact fun v H2 Z2 p2 kv => q v H2 Z2 (p.trans env p2) kv
  | Or =>
    cases op with
    | true => cases ho
    | false =>
      refine PE.weak (pe_orT h h2) fun c H Q => ?_
      rintro ⟨Z, s, env, q⟩
      refine ⟨Z, s, env, ?_⟩
      rw [ev] at q
      cases e1 : evE a s with
      | stuck => rw [e1] at q; exact q
      | exc x s1 => rw [e1] at q; exact q
      | ok d s1 =>
        rw [e1, Out.bind_ok] at q
        intro v H1 Z1 p kv
        cases e2 : tru d with
        | none => rw [e2] at q; exact q.elim
        | some t =>
          rw [e2, optB_some, Out.bind_ok] at q
          refine ⟨t, (kv.vw p.env).tru e2, ?_⟩
          cases t with
          | true =>
            rw [if_pos rfl]
            rw [if_neg (fun z => nomatch z)] at q
            exact q v H1 Z1 p kv
          | false =>
            rw [if_neg Bool.false_ne_true]
            rw [if_pos rfl] at q
            refine ⟨Z1, s1, p.env, ?_⟩
            cases e3 : evB false (.cons b cs) s1 with
            | stuck => rw [e3] at q; exact q
            | exc x s2 => rw [e3] at q; exact fun H2 Z2 p2 => q H2 Z2 (p.trans env p2)
            | ok d2 s2 => rw [e3] at q; exact fun v H2 Z2 p2 kv => q v H2 Z2 (p.trans env p2) kv
/-! ### a if c else b -/
theorem ife_sound {ec ea eb : Expr} {pos : Pos} {c0 a b : CE} {k1 k2 kd : Kd} (hk : (k1 = kd ∧ k2 = kd) ∨ (kd = .fz ∧ k1.firm = true ∧ k2.firm = true))
    (hc : PT X ec (tT C W Γ c0)) (ha : PE X ea (tE C W Γ a k1)) (hb : PE X eb (tE C W Γ b k2)) : PE X (.IfExp ec ea eb pos) (tE C W Γ (.ife c0 a b) kd) := by
  refine PE.weak (pe_ifExp hc ha hb) fun c H Q => ?_
  rintro ⟨Z, s, env, q⟩
  refine ⟨Z, s, env, ?_⟩
  have ev : evE (.ife c0 a b) s = (evT c0 s).bind fun t s1 => if t then evE a s1 else evE b s1 := rfl
  rw [ev] at q
  have conv : ∀ {k1 : Kd} {H : Hp} {s1 : Sg} {Z1 : Addr → Prop} {H1 : Hp} {d : D} {v : V} {s0 : Sg} {Z0 : Addr → Prop}, (k1 = kd ∨ (kd = .fz ∧ k1.firm = true)) → Env C.K Z0 H Γ s0 c → PostE C.K Z0 H Γ c s1 Z1 H1 → KV C.K k1 H Γ c s1 Z1 H1 d v →
      ∃ Z2, PostE C.K Z0 H Γ c s1 Z2 H1 ∧ KV C.K kd H Γ c s1 Z2 H1 d v := by
    intro k1 H s1 Z1 H1 d v s0 Z0 hq env p kv
    rcases hq with hq | ⟨hq, hf⟩
    · subst hq
      exact ⟨Z1, p, kv⟩
    · obtain ⟨Z2, z1, z2, z3, z4, r⟩ := kv.give p.env hf
      subst hq
      refine ⟨Z2, ⟨fun a h => z1 a (p.zz a h), fun a h => ?_, p.pr, p.env.grow z1 z3 z4⟩, r⟩
      rcases z2 a h with h | h
      · exact p.zn a h
      · exact .inr h
  cases e1 : evT c0 s with
  | stuck => rw [e1] at q; exact q
  | exc x s1 => rw [e1] at q; exact q
  | ok t s1 =>
    rw [e1, Out.bind_ok] at q
    intro H1 Z1 p
    cases t with
    | true =>
      rw [if_pos rfl] at q ⊢
      refine ⟨Z1, s1, p.env, ?_⟩
      cases e2 : evE a s1 with
      | stuck => rw [e2] at q; exact q
      | exc x s2 => rw [e2] at q; exact fun H2 Z2 p2 => q H2 Z2 (p.trans env p2)
      | ok d s2 =>
        rw [e2] at q
        intro v H2 Z2 p2 kv
        obtain ⟨Z3, p3, kv3⟩ := conv (hk.elim (fun h => .inl h.1) fun h => .inr ⟨h.1, h.2.1⟩) p.env p2 kv
        exact q v H2 Z3 (p.trans env p3) (kv3.older env p)
    | false =>
      rw [if_neg Bool.false_ne_true] at q ⊢
      refine ⟨Z1, s1, p.env, ?_⟩
      cases e2 : evE b s1 with
      | stuck => rw [e2] at q; exact q
      | exc x s2 => rw [e2] at q; exact fun H2 Z2 p2 => q H2 Z2 (p.trans env p2)
      | ok d s2 =>
        rw [e2] at q
        intro v H2 Z2 p2 kv
        obtain ⟨Z3, p3, kv3⟩ := conv (hk.elim (fun h => .inl h.2) fun h => .inr ⟨h.1, h.2.2⟩) p.env p2 kv
        exact q v H2 Z3 (p.trans env p3) (kv3.older env p)
/-! ### tests -/
/-- a value as a test -/
theorem test_of (hX : XOk C N sc k W X) {a : CE} {kd : Kd} {e : Expr} (hp : plainHead e = true) (h : PE X e (tE C W Γ a kd)) (ev : ∀ s, evT a s = (evE a s).bind fun d s1 => optB (tru d) s1) : PT X e (tT C W Γ a) := by
  have hc := hX.cn
  subst hc
  refine PT.weak (pt_truth h (by intro wh; cases e with
    | UnaryOp o _ _ => cases o <;> first | rfl | cases hp
    | BoolOp _ _ _ => cases hp
    | IfExp _ _ _ _ => cases hp
    | Compare _ _ _ _ => cases hp
    | _ => rfl)) fun c H Q => ?_
  rintro ⟨Z, s, env, q⟩
  refine ⟨Z, s, env, ?_⟩
  rw [ev] at q
  cases e1 : evE a s with
  | stuck => rw [e1] at q; exact q
  | exc x s1 => rw [e1] at q; exact q
  | ok d s1 =>
    rw [e1, Out.bind_ok] at q
    intro v H1 Z1 p kv
    cases e2 : tru d with
    | none => rw [e2] at q; exact q.elim
    | some b =>
      rw [e2] at q
      exact ⟨b, (kv.vw p.env).tru e2, q H1 Z1 p⟩
theorem nott_sound {a : CE} {e : Expr} {pos : Pos} (h : PT X e (tT C W Γ a)) : PT X (.UnaryOp .Not e pos) (tT C W Γ (.not a)) := by
  refine PT.weak (pt_not h) fun c H Q => ?_
  rintro ⟨Z, s, env, q⟩
  refine ⟨Z, s, env, ?_⟩
  have ev : evT (.not a) s = (evT a s).bind fun b s1 => .ok (!b) s1 := rfl
  rw [ev] at q
  cases e1 : evT a s with
  | stuck => rw [e1] at q; exact q
  | exc x s1 => rw [e1] at q; exact q
  | ok b s1 => rw [e1] at q; exact q
abbrev tBT (C : Cn) (W : WX) (Γ : List SK) (op : Bool) (as : CEs) : TT := fun c H Q => ∃ Z s, Env C.K Z H Γ s c ∧ match evBT op as s with
  | .ok b s1 => ∀ H1 Z1, PostE C.K Z H Γ c s1 Z1 H1 → Q b H1
  | .exc x s1 => ∀ H1 Z1, PostE C.K Z H Γ c s1 Z1 H1 → W (.ref (xa C.mg x)) none c H1
  | .stuck => False
theorem PW.weak {e : Expr} {t u : TT} (h : PW X e t) (q : ∀ c H Q, u c H Q → t c H Q) : PW X e u := ⟨fun wh pins s σ H Q I w => h.run wh pins s σ H Q I (q σ H Q w)⟩
theorem boolt_one {op : Bool} {o : BoolOp} {a : CE} {e : Expr} {pos : Pos} (h : PT X e (tT C W Γ a)) : PW X (.BoolOp o [e] pos) (tBT C W Γ op (.cons a .nil)) := by
  have : PW X (.BoolOp o [e] pos) (tT C W Γ a) := by
    cases o
    · exact pw_and1 h
    · exact pw_or1 h
  exact PW.weak this fun c H Q h => h
theorem boolt_cons {op : Bool} {o : BoolOp} {a : CE} {b : CE} {cs : CEs} {e e2 : Expr} {es : List Expr} {pos : Pos} (ho : opIs op o = true) (h : PT X e (tT C W Γ a)) (h2 : PW X (.BoolOp o (e2 :: es) pos) (tBT C W Γ op (.cons b cs))) :
    PW X (.BoolOp o (e :: e2 :: es) pos) (tBT C W Γ op (.cons a (.cons b cs))) := by
  have ev : ∀ s, evBT op (.cons a (.cons b cs)) s = (evT a s).bind fun t s1 => if t = op then evBT op (.cons b cs) s1 else .ok t s1 := fun s => by cases op <;> rfl
  have go : ∀ (c : St) (H : Hp) (Q : Bool → Hp → Prop), tBT C W Γ op (.cons a (.cons b cs)) c H Q → tT C W Γ a c H fun t H1 => if t = op then tBT C W Γ op (.cons b cs) c H1 Q else Q t H1 := by
    rintro c H Q ⟨Z, s, env, q⟩
    refine ⟨Z, s, env, ?_⟩
    rw [ev] at q
    cases e1 : evT a s with
    | stuck => rw [e1] at q; exact q
    | exc x s1 => rw [e1] at q; exact q
    | ok t s1 =>
      rw [e1, Out.bind_ok] at q
      intro H1 Z1 p
      by_cases ht : t = op
      · rw [if_pos ht] at q ⊢
        refine ⟨Z1, s1, p.env, ?_⟩
        cases e3 : evBT op (.cons b cs) s1 with
        | stuck => rw [e3] at q; exact q
        | exc x s2 => rw [e3] at q; exact fun H2 Z2 p2 => q H2 Z2 (p.trans env p2)
        | ok d2 s2 => rw [e3] at q; exact fun H2 Z2 p2 => q H2 Z2 (p.trans env p2)
      · rw [if_neg ht] at q ⊢
        exact q H1 Z1 p
  cases o with
  | And =>
    cases op with
    | false => cases ho
    | true =>
      refine PW.weak (pw_and h h2) fun c H Q hq => ?_
      obtain ⟨Z, s, env, q⟩ := go c H Q hq
      refine ⟨Z, s, env, ?_⟩
      cases e1 : evT a s with
      | stuck => rw [e1] at q; exact q
      | exc x s1 => rw [e1] at q; exact q
      | ok t s1 =>
        rw [e1] at q
        intro H1 Z1 p
        have := q H1 Z1 p
        cases t with
        | true => exact this
        | false => exact this
  | Or =>
    cases op with
    | true => cases ho
    | false =>
      refine PW.weak (pw_or h h2) fun c H Q hq => ?_
      obtain ⟨Z, s, env, q⟩ := go c H Q hq
      refine ⟨Z, s, env, ?_⟩
      cases e1 : evT a s with
      | stuck => rw [e1] at q; exact q
      | exc x s1 => rw [e1] at q; exact q
      | ok t s1 =>
        rw [e1] at q
        intro H1 Z1 p
        have := q H1 Z1 p
        cases t with
        | true => exact this
        | false => exact this
/-- a comparison as a test -/
theorem cmp_test {P : Pr} {as : CEs} {ks : List Kd} {ts : List TE} {e : Expr} (hk : escOk P.esc 0 ks = true) (h : ∀ c H R, tEs C W Γ as ks c H R → tAll ts c H R) (hp : PT X e (tB (tP C P (tAll ts)))) (hb : P.nw = false ∧ ∀ ds d, P.sem ds = some d → ∃ b, d = .bl b) : PT X e (tT C W Γ (.pr P as)) := by
  refine PT.weak hp fun c H Q => ?_
  rintro ⟨Z, s, env, q⟩
  refine pr_sound (C := C) (W := W) (Γ := Γ) hk h c H _ ⟨Z, s, env, ?_⟩
  have ev : evT (.pr P as) s = (evEs as s).bind fun ds s1 => (optD (P.sem ds) s1).bind fun d s2 => optB (tru d) s2 := rfl
  have ev2 : evE (.pr P as) s = (evEs as s).bind fun ds s1 => optD (P.sem ds) s1 := rfl
  rw [ev] at q
  rw [ev2]
  cases e1 : evEs as s with
  | stuck => rw [e1] at q; exact q
  | exc x s1 => rw [e1] at q; exact q
  | ok ds s1 =>
    rw [e1, Out.bind_ok] at q
    rw [Out.bind_ok]
    cases e2 : P.sem ds with
    | none => rw [e2] at q; exact q
    | some d =>
      rw [e2, optD_some, Out.bind_ok] at q
      rw [optD_some]
      intro v H1 Z1 p kv
      rw [hb.1, if_neg Bool.false_ne_true] at kv
      obtain ⟨b, rfl⟩ := hb.2 ds d e2
      exact ⟨b, kv, q H1 Z1 p⟩
end
end G
end
section
set_option maxRecDepth 10000
/-! Own lists that change; names that are stored; what is walked; comprehensions. -/
namespace G
open PySem L2
section
variable {K : PySem.W.Frag} {Z Z1 Z2 : Addr → Prop} {H H1 H2 : Hp} {Γ Γ1 : List SK} {s s1 s2 : Sg} {c c1 : St}
theorem Env.congr (e : Env K Z H Γ s c) (h : ∀ i : Nat, Γ1[i]? = Γ[i]?) : Env K Z H Γ1 s c := by
  have : Γ1 = Γ := List.ext_getElem? h
  rw [this]; exact e
/-- what is known of a slot is forgotten -/
def weaker (Γ Γ1 : List SK) : Prop := ∀ i : Nat, Γ1[i]? = Γ[i]? ∨ Γ1[i]? = some .un
theorem Own.weak (w : weaker Γ Γ1) {a : Addr} (h : Own Γ1 c a) : Own Γ c a := by
  obtain ⟨i, h1, h2⟩ := h
  rcases w i with q | q
  · exact ⟨i, q.symm.trans h1, h2⟩
  · rw [q] at h1; cases h1
theorem Env.weak (e : Env K Z H Γ s c) (hl : Γ1.length = Γ.length) (w : weaker Γ Γ1) : Env K Z H Γ1 s c := by
  have lift : ∀ {i : Nat} {k : SK}, k ≠ .un → Γ1[i]? = some k → Γ[i]? = some k := fun {i k} hk h => by
    rcases w i with q | q
    · exact q.symm.trans h
    · rw [q] at h; cases h; exact absurd rfl hk
  exact ⟨⟨e.len.1, hl.trans e.len.2⟩, e.zd, fun i h => e.fr i (lift (by decide) h), fun i h => e.ow i (lift (by decide) h), fun i j a h1 h2 => e.inj i j a (lift (by decide) h1) (lift (by decide) h2)⟩
/-- an own list or dict is changed -/
theorem Env.write (e : Env K Z H Γ s c) {i : Nat} {a : Addr} {d : D} {o : HO} (hi : Γ[i]? = some .ow) (hc : c[i]? = some (some (.ref a))) (ht : Top K Z (upd H a o) a d) : PostE K Z H Γ c (s.set i d) Z (upd H a o) := by
  have own : Own Γ c a := ⟨i, hi, hc⟩
  obtain ⟨nz, u, hu, tu⟩ := e.own own
  have hil : i < s.length := by
    have := (List.getElem?_eq_some_iff.mp hc).1
    rw [e.len.1]; exact this
  have m : Mono Z H Z (upd H a o) := ⟨fun _ h => h, fun b w h q => by
    rw [upd_ne]
    · exact h
    · rintro rfl
      rw [hu] at h; cases h
      rcases q with q | q
      · exact nz q
      · rw [q] at tu; cases tu⟩
  refine ⟨fun _ h => h, fun _ h => .inl h, fun b w h q => ?_, ⟨⟨by rw [List.length_set]; exact e.len.1, e.len.2⟩, fun b h => ?_, fun j h => ?_, fun j h => ?_, e.inj⟩⟩
  · rw [upd_ne (fun z => q (by rw [z]; exact own))]; exact h
  · by_cases hb : b = a
    · rw [hb, upd_same]; exact fun z => nomatch z
    · rw [upd_ne hb]; exact e.zd b h
  · obtain ⟨v, h1, h2⟩ := e.fr j h
    refine ⟨v, h1, ?_⟩
    rw [gt_set_ne (fun z => by rw [← z, hi] at h; cases h)]
    exact Rp.mono m _ _ h2
  · by_cases hj : i = j
    · subst hj
      refine ⟨a, hc, nz, ?_⟩
      rw [gt_set_eq hil]; exact ht
    · obtain ⟨b, h1, h2, h3⟩ := e.ow j h
      refine ⟨b, h1, h2, ?_⟩
      rw [gt_set_ne hj]
      refine h3.mono m (upd_ne fun z => hj ?_)
      subst z
      exact e.inj i j b hi h hc h1
/-- the frozen things stay where an own list changes -/
theorem Env.monoW (e : Env K Z H Γ s c) {i : Nat} {a : Addr} {o : HO} (hi : Γ[i]? = some .ow) (hc : c[i]? = some (some (.ref a))) : Mono Z H Z (upd H a o) := by
  obtain ⟨nz, u, hu, tu⟩ := e.own ⟨i, hi, hc⟩
  exact ⟨fun _ h => h, fun b w h q => by
    rw [upd_ne]
    · exact h
    · rintro rfl
      rw [hu] at h; cases h
      rcases q with q | q
      · exact nz q
      · rw [q] at tu; cases tu⟩
/-- a slot is stored: something frozen -/
theorem Env.setF (e : Env K Z H Γ s c) {i : Nat} {d : D} {v : V} (hi : i < s.length) (r : Rp K Z H d v) : Env K Z H (Γ.set i .fr) (s.set i d) (c.set i (some v)) := by
  have hc : i < c.length := by rw [← e.len.1]; exact hi
  have hg : i < Γ.length := by rw [e.len.2]; exact hc
  have lift : ∀ {j : Nat} {k : SK}, i ≠ j → (Γ.set i .fr)[j]? = some k → Γ[j]? = some k := fun {j k} hj h => by rwa [List.getElem?_set_ne hj] at h
  have isi : ∀ {j : Nat}, (Γ.set i .fr)[j]? = some .ow → i ≠ j := fun {j} h z => by
    subst z
    rw [List.getElem?_set_self hg] at h
    cases h
  refine ⟨⟨by rw [List.length_set, List.length_set]; exact e.len.1, by rw [List.length_set, List.length_set]; exact e.len.2⟩, e.zd, fun j h => ?_, fun j h => ?_, fun j k a h1 h2 h3 h4 => ?_⟩
  · by_cases hj : i = j
    · subst hj
      exact ⟨v, List.getElem?_set_self hc, by rw [gt_set_eq hi]; exact r⟩
    · obtain ⟨w, h1, h2⟩ := e.fr j (lift hj h)
      exact ⟨w, by rw [List.getElem?_set_ne hj]; exact h1, by rw [gt_set_ne hj]; exact h2⟩
  · have hj := isi h
    obtain ⟨w, h1, h2, h3⟩ := e.ow j (lift hj h)
    exact ⟨w, by rw [List.getElem?_set_ne hj]; exact h1, h2, by rw [gt_set_ne hj]; exact h3⟩
  · have hj := isi h1
    have hk := isi h2
    rw [List.getElem?_set_ne hj] at h3
    rw [List.getElem?_set_ne hk] at h4
    exact e.inj j k a (lift hj h1) (lift hk h2) h3 h4
/-- a slot is stored: a new list or dict, its own from now on -/
theorem Env.setO (e : Env K Z H Γ s c) {i : Nat} {d : D} {a : Addr} (hi : i < s.length) (nz : ¬ Z a) (no : ¬ Own Γ c a) (t : Top K Z H a d) : Env K Z H (Γ.set i .ow) (s.set i d) (c.set i (some (.ref a))) := by
  have hc : i < c.length := by rw [← e.len.1]; exact hi
  have hg : i < Γ.length := by rw [e.len.2]; exact hc
  have lift : ∀ {j : Nat} {k : SK}, i ≠ j → (Γ.set i .ow)[j]? = some k → Γ[j]? = some k := fun {j k} hj h => by rwa [List.getElem?_set_ne hj] at h
  have liftc : ∀ {j : Nat} {k : Option V}, i ≠ j → (c.set i (some (.ref a)))[j]? = some k → c[j]? = some k := fun {j k} hj h => by rwa [List.getElem?_set_ne hj] at h
  refine ⟨⟨by rw [List.length_set, List.length_set]; exact e.len.1, by rw [List.length_set, List.length_set]; exact e.len.2⟩, e.zd, fun j h => ?_, fun j h => ?_, fun j k b h1 h2 h3 h4 => ?_⟩
  · have hj : i ≠ j := fun z => by
      subst z
      rw [List.getElem?_set_self hg] at h
      cases h
    obtain ⟨w, h1, h2⟩ := e.fr j (lift hj h)
    exact ⟨w, by rw [List.getElem?_set_ne hj]; exact h1, by rw [gt_set_ne hj]; exact h2⟩
  · by_cases hj : i = j
    · subst hj
      exact ⟨a, List.getElem?_set_self hc, nz, by rw [gt_set_eq hi]; exact t⟩
    · obtain ⟨w, h1, h2, h3⟩ := e.ow j (lift hj h)
      exact ⟨w, by rw [List.getElem?_set_ne hj]; exact h1, h2, by rw [gt_set_ne hj]; exact h3⟩
  · by_cases hj : i = j
    · subst hj
      rw [List.getElem?_set_self hc] at h3; cases h3
      by_cases hk : i = k
      · exact hk
      · exact absurd ⟨k, lift hk h2, liftc hk h4⟩ no
    · by_cases hk : i = k
      · subst hk
        rw [List.getElem?_set_self hc] at h4; cases h4
        exact absurd ⟨j, lift hj h1, liftc hj h3⟩ no
      · exact e.inj j k b (lift hj h1) (lift hk h2) (liftc hj h3) (liftc hk h4)
end
/-! ### targets -/
mutual
def gT (K : PySem.W.Frag) : Tg → TG
  | .name i => gName i
  | .tup ts => fun v σ H Q => gTup K ts.length (gTs K ts) v σ H Q ∨ gLst K ts.length (gTs K ts) v σ H Q
def gTs (K : PySem.W.Frag) : List Tg → TGs
  | [] => gNil
  | t :: ts => gCons (gT K t) (gTs K ts)
end
theorem PG.or {X : Cx} {e : Expr} {t u : TG} (h : PG X e t) (h' : PG X e u) : PG X e (fun v σ H Q => t v σ H Q ∨ u v σ H Q) := ⟨fun pins s σ H v w Q I r q => q.elim (h.run pins s σ H v w Q I r) (h'.run pins s σ H v w Q I r)⟩
/-- the names that may be stored here -/
def Stores (st : Scope) (X : Cx) : Prop := ∀ x, locB st x = true → L2.Loc X.env.scope x ∧ (X.fn x = true ∨ X.env.scope.names.lookup x = some .local)
theorem each_no {es : List Expr} {env : PySem.Env} : noStar es = true → (assignEach es env).length = es.length ∧ (assignEach es env).findIdx? (·.1) = none := by
  induction es with
  | nil => intro _; exact ⟨rfl, rfl⟩
  | cons e r ih =>
    intro h
    obtain ⟨h1, h2⟩ := noStar_cons h
    obtain ⟨i1, i2⟩ := ih h2
    have : assignEach (e :: r) env = (false, assign e env) :: assignEach r env := by cases e <;> first | rfl | cases h1
    rw [this]
    refine ⟨by rw [List.length_cons, List.length_cons, i1], ?_⟩
    rw [List.findIdx?_cons, i2]
    rfl
mutual
theorem tg_sound {N : List Str} {st : Scope} {X : Cx} (hN : N = X.N) (nd : X.N.Nodup) (calm : X.calm = true) (hs : Stores st X) : ∀ (t : Tg) (e : Expr), ckTg N st t e = true → PG X e (gT X.K t)
  | .name i, .Name x _, h => by
    have h : (decide (N[i]? = some x) && locB st x) = true := h
    rw [Bool.and_eq_true, decide_eq_true_eq] at h
    obtain ⟨h1, h2⟩ := hs x h.2
    exact pg_name nd (by rw [← hN]; exact h.1) h1 h2
  | .tup ts, .Tuple es k0 p0, h => by
    have h : ckTgs N st ts es = true := h
    obtain ⟨p, hl, hn⟩ := tgs_sound hN nd calm hs ts es h
    obtain ⟨a1, a2⟩ := each_no (env := X.env) hn
    have q : PG X (.Tuple es k0 p0) (gTup X.K ts.length (gTs X.K ts)) := pg_tup calm p (by rw [a1, hl]) a2
    have q2 : PG X (.Tuple es k0 p0) (gLst X.K ts.length (gTs X.K ts)) := pg_lst calm p (by rw [a1, hl]) a2
    exact PG.or q q2
  | .name _, .Tuple _ _ _, h => by cases h
  | .tup _, .Name _ _, h => by cases h
theorem tgs_sound {N : List Str} {st : Scope} {X : Cx} (hN : N = X.N) (nd : X.N.Nodup) (calm : X.calm = true) (hs : Stores st X) : ∀ (ts : List Tg) (es : List Expr), ckTgs N st ts es = true → PGs X es (gTs X.K ts) ∧ es.length = ts.length ∧ noStar es = true
  | [], [], _ => ⟨pgs_nil, rfl, rfl⟩
  | t :: ts, e :: es, h => by
    have h : (!isStar e && ckTg N st t e && ckTgs N st ts es) = true := h
    rw [Bool.and_eq_true, Bool.and_eq_true] at h
    obtain ⟨p, hl, hn⟩ := tgs_sound hN nd calm hs ts es h.2
    have he : isStar e = false := by simpa using h.1.1
    refine ⟨pgs_cons (tg_sound hN nd calm hs t e h.1.2) p ?_, by rw [List.length_cons, List.length_cons, hl], ?_⟩
    · cases e <;> first | rfl | cases he
    · show ((!isStar e) && noStar es) = true
      rw [he, hn]; rfl
  | [], _ :: _, h => by cases h
  | _ :: _, [], h => by cases h
end
end G
end
section
set_option maxRecDepth 10000
/-! What a target's storing comes to; what is walked; comprehensions. -/
namespace G
open PySem L2
theorem setAll_get {Γ : List SK} {k : SK} : ∀ {l : List Nat} {j : Nat}, (setAll Γ k l)[j]? = if j ∈ l ∧ j < Γ.length then some k else Γ[j]?
  | [], j => by simp [setAll]
  | i :: r, j => by
    have ih := fun j => setAll_get (Γ := Γ) (k := k) (l := r) (j := j)
    have hl : (setAll Γ k r).length = Γ.length := by
      have : ∀ l : List Nat, (setAll Γ k l).length = Γ.length := by
        intro l
        induction l with
        | nil => rfl
        | cons a b ih => show ((setAll Γ k b).set a k).length = _; rw [List.length_set, ih]
      exact this r
    show ((setAll Γ k r).set i k)[j]? = _
    by_cases hij : i = j
    · subst hij
      by_cases hi : i < Γ.length
      · rw [List.getElem?_set_self (by rw [hl]; exact hi), if_pos ⟨List.mem_cons_self, hi⟩]
      · rw [if_neg (fun h => hi h.2), List.getElem?_eq_none (by rw [List.length_set, hl]; omega), List.getElem?_eq_none (by omega)]
    · rw [List.getElem?_set_ne hij, ih]
      have : (j ∈ i :: r ∧ j < Γ.length) ↔ (j ∈ r ∧ j < Γ.length) := by
        simp only [List.mem_cons]
        constructor
        · rintro ⟨h | h, h2⟩
          · exact absurd h.symm hij
          · exact ⟨h, h2⟩
        · rintro ⟨h, h2⟩
          exact ⟨.inr h, h2⟩
      by_cases h : j ∈ r ∧ j < Γ.length
      · rw [if_pos h, if_pos (this.mpr h)]
      · rw [if_neg h, if_neg fun z => h (this.mp z)]
theorem setAll_len {Γ : List SK} {k : SK} : ∀ l : List Nat, (setAll Γ k l).length = Γ.length
  | [] => rfl
  | i :: r => by show ((setAll Γ k r).set i k).length = _; rw [List.length_set, setAll_len r]
section
variable {K : PySem.W.Frag} {Z : Addr → Prop} {H : Hp}
mutual
theorem bnd_sound : ∀ (t : Tg) (d : D) (v : V) (s s1 : Sg) (Γ : List SK) (c : St) (Q : St → Hp → Prop), Env K Z H Γ s c → Vw K Z H d v → (∀ i, t = .name i → Rp K Z H d v) → bnd t d s = some s1 →
    (∀ c1, Env K Z H (setAll Γ .fr (tgS t)) s1 c1 → (∀ j, j ∉ tgS t → c1[j]? = c[j]?) → Q c1 H) → gT K t v c H Q
  | .name i, d, v, s, s1, Γ, c, Q, e, _, r, hb, h => by
    have hb : (if i < s.length then some (s.set i d) else none) = some s1 := hb
    split at hb
    · rename_i hi
      cases hb
      refine h _ ((e.setF hi (r i rfl)).congr fun j => ?_) fun j hj => ?_
      · rfl
      · rw [List.getElem?_set_ne]
        intro z
        exact hj (by rw [z]; exact List.mem_singleton.mpr rfl)
    · cases hb
  | .tup ts, .tup ds, v, s, s1, Γ, c, Q, e, w, _, hb, h => by
    have hb : (if ts.length = ds.length then bnds ts ds s else none) = some s1 := hb
    split at hb
    · rename_i hl
      obtain ⟨a, xs, rfl, h1, h2⟩ := w.tup
      exact .inl ⟨a, xs, rfl, h1, by rw [← h2.len, hl], bnds_sound ts ds xs s s1 Γ c Q e h2 hb h⟩
    · cases hb
  | .tup ts, .wtp ds, v, s, s1, Γ, c, Q, e, w, _, hb, h => by
    have hb : (if ts.length = ds.length then bnds ts ds s else none) = some s1 := hb
    split at hb
    · rename_i hl
      obtain ⟨a, xs, rfl, h1, h2⟩ := w.wtp
      exact .inl ⟨a, xs, rfl, h1, by rw [← h2.len, hl], bnds_sound ts ds xs s s1 Γ c Q e h2 hb h⟩
    · cases hb
  | .tup ts, .lst ds, v, s, s1, Γ, c, Q, e, w, _, hb, h => by
    have hb : (if ts.length = ds.length then bnds ts ds s else none) = some s1 := hb
    split at hb
    · rename_i hl
      obtain ⟨a, xs, rfl, h1, h2⟩ := w.lst
      exact .inr ⟨a, xs, rfl, .of h1, by rw [← h2.len, hl], bnds_sound ts ds xs s s1 Γ c Q e h2 hb h⟩
    · cases hb
  | .tup _, .non, _, _, _, _, _, _, _, _, _, hb, _ => by cases hb
  | .tup _, .bl _, _, _, _, _, _, _, _, _, _, hb, _ => by cases hb
  | .tup _, .int _, _, _, _, _, _, _, _, _, _, hb, _ => by cases hb
  | .tup _, .str _, _, _, _, _, _, _, _, _, _, hb, _ => by cases hb
  | .tup _, .dk _, _, _, _, _, _, _, _, _, _, hb, _ => by cases hb
  | .tup _, .dt _, _, _, _, _, _, _, _, _, _, hb, _ => by cases hb
  | .tup _, .scr _, _, _, _, _, _, _, _, _, _, hb, _ => by cases hb
theorem bnds_sound : ∀ (ts : List Tg) (ds : List D) (xs : List V) (s s1 : Sg) (Γ : List SK) (c : St) (Q : St → Hp → Prop), Env K Z H Γ s c → RpL K Z H ds xs → bnds ts ds s = some s1 →
    (∀ c1, Env K Z H (setAll Γ .fr (tgS.tgSs ts)) s1 c1 → (∀ j, j ∉ tgS.tgSs ts → c1[j]? = c[j]?) → Q c1 H) → gTs K ts xs c H Q
  | [], [], xs, s, s1, Γ, c, Q, e, r, hb, h => by
    cases hb
    exact ⟨r, h c e fun _ _ => rfl⟩
  | t :: ts, d :: ds, xs, s, s1, Γ, c, Q, e, ⟨v, vr, e1, r1, r2⟩, hb, h => by
    subst e1
    have hb : (match bnd t d s with
      | some s1 => bnds ts ds s1
      | none => none) = some s1 := hb
    cases e2 : bnd t d s with
    | none => rw [e2] at hb; cases hb
    | some s2 =>
      rw [e2] at hb
      refine ⟨v, vr, rfl, bnd_sound t d v s s2 Γ c _ e (.inl r1) (fun _ _ => r1) e2 fun c1 e3 k1 => ?_⟩
      refine bnds_sound ts ds vr s2 s1 _ c1 Q e3 r2 hb fun c2 e4 k2 => h c2 (e4.congr fun j => ?_) fun j hj => ?_
      · show (setAll Γ .fr (tgS t ++ tgS.tgSs ts))[j]? = (setAll (setAll Γ .fr (tgS t)) .fr (tgS.tgSs ts))[j]?
        rw [setAll_get, setAll_get, setAll_get, setAll_len]
        simp only [List.mem_append]
        by_cases h1 : j ∈ tgS.tgSs ts ∧ j < Γ.length
        · rw [if_pos h1, if_pos ⟨.inr h1.1, h1.2⟩]
        · rw [if_neg h1]
          by_cases h2 : j ∈ tgS t ∧ j < Γ.length
          · rw [if_pos h2, if_pos ⟨.inl h2.1, h2.2⟩]
          · rw [if_neg h2, if_neg fun z => z.1.elim (fun q => h2 ⟨q, z.2⟩) fun q => h1 ⟨q, z.2⟩]
      · have hj : j ∉ tgS t ++ tgS.tgSs ts := hj
        rw [List.mem_append, not_or] at hj
        rw [k2 j hj.2, k1 j hj.1]
  | [], _ :: _, _, _, _, _, _, _, _, _, hb, _ => by cases hb
  | _ :: _, [], _, _, _, _, _, _, _, _, hb, _ => by cases hb
end
end
/-! ### what is walked -/
/-- whatever the walk's things are later, its turns tell the items -/
def GoodIt (K : PySem.W.Frag) (J : It) (ds : List D) (vs : List V) (items : List D) : Prop := ∀ (Z : Addr → Prop) (H : Hp), (∀ a, Z a → H a ≠ none) → Args K Z H (fun _ => false) 0 ds vs →
  (∀ (i : Nat) (d : D), items[i]? = some d → J.go i H ∧ ∀ x H1, J.yld i H x H1 → (∀ a o, H a = some o → H1 a = some o) ∧ Rp K Z H1 d x) ∧ ∀ i, items.length ≤ i → J.stop i H
def tIp (C : Cn) (P : Ip) (t : TA) : TI := fun c H R => t c H fun vs H1 => ∃ Z ds items, (∀ a, Z a → H1 a ≠ none) ∧ Args C.K Z H1 (fun _ => false) 0 ds vs ∧ P.sem ds = some items ∧ ∀ J, GoodIt C.K J ds vs items → R J H1
def Ip.Ok (C : Cn) (P : Ip) : Prop := ∀ {N : List Str} {sc : Scope} {k : Nat} {W : WX} {X : Cx}, XOk C N sc k W X → ∀ {tg it : Expr} {es : List Expr} {ts : List TE}, P.rcg sc tg it = some es → PEs X es ts → noStar es = true → PI X tg it (tIp C P (tAll ts))
/-! ### a comprehension's block -/
/-- nothing is wanted: no refusal comes -/
def W0 : WX := fun _ _ _ _ => False
theorem blk_ok {C : Cn} {N : List Str} {sc : Scope} {k : Nat} {W : WX} {X : Cx} (hX : XOk C N sc k W X) (scope : Scope) (s : Shared) (H : Hp) (D : Addr) (cl : List (Str × Addr)) (fp : List Addr) :
    XOk C N (relS scope sc) k W0 (X.blk s H scope (compEnvC scope cl D X.env) fp) where
  cn := hX.cn
  N := hX.N
  nd := hX.nd
  sc := by rw [hX.sc]; rfl
  calm := hX.calm
  room := hX.room
  tk := fun u s' ⟨_, _, _, _, _, _, _, _, _, _, _, _, _, _, _, _, w⟩ => w.elim
theorem blk_stores {X : Cx} (scope : Scope) (s : Shared) (H : Hp) (D : Addr) (cl : List (Str × Addr)) (fp : List Addr) : Stores scope (X.blk s H scope (compEnvC scope cl D X.env) fp) := fun x hx => by
  have hl := locB_loc hx
  rcases hl with e | e
  · have q := lookup_relS_keep (sc := X.env.scope) (names := scope.names) (x := x) (k := .local) (by decide) e
    exact ⟨.inl q, .inr q⟩
  · have q := lookup_relS_keep (sc := X.env.scope) (names := scope.names) (x := x) (k := .cell) (by decide) e
    refine ⟨.inr q, .inl ?_⟩
    show (scope.names.lookup x == some .cell) = true
    rw [e]; rfl
/-- the tests of a comprehension -/
def tTs (C : Cn) (W : WX) (Γ : List SK) (es : CEs) : TT := fun c H Q => ∃ Z s, Env C.K Z H Γ s c ∧ match evTs es s with
  | .ok b s1 => ∀ H1 Z1, PostE C.K Z H Γ c s1 Z1 H1 → Q b H1
  | .exc x s1 => ∀ H1 Z1, PostE C.K Z H Γ c s1 Z1 H1 → W (.ref (xa C.mg x)) none c H1
  | .stuck => False
theorem gt_wipe {s : Sg} {i : Nat} : ∀ {own : List Nat}, i ∉ own → gt (wipe s own) i = gt s i
  | [], _ => rfl
  | j :: r, h => by
    show gt ((wipe s r).set j .non) i = _
    rw [List.mem_cons, not_or] at h
    rw [gt_set_ne (Ne.symm h.1), gt_wipe h.2]
theorem len_wipe {s : Sg} : ∀ own : List Nat, (wipe s own).length = s.length
  | [] => rfl
  | j :: r => by show ((wipe s r).set j .non).length = _; rw [List.length_set, len_wipe r]
theorem len_rest {s0 s : Sg} : ∀ own : List Nat, (rest s0 s own).length = s.length
  | [] => rfl
  | j :: r => by show ((rest s0 s r).set j _).length = _; rw [List.length_set, len_rest r]
theorem gt_rest {s0 s : Sg} (hl : s0.length = s.length) {i : Nat} : ∀ {own : List Nat}, gt (rest s0 s own) i = if i ∈ own then gt s0 i else gt s i
  | [] => by simp [rest]
  | j :: r => by
    show gt ((rest s0 s r).set j (gt s0 j)) i = _
    by_cases hij : j = i
    · subst hij
      rw [if_pos List.mem_cons_self]
      by_cases hj : j < s.length
      · rw [gt_set_eq (by rw [len_rest]; exact hj)]
      · unfold gt
        rw [List.getElem?_eq_none (by rw [List.length_set, len_rest]; omega), List.getElem?_eq_none (by omega)]
    · rw [gt_set_ne hij, gt_rest hl]
      by_cases hm : i ∈ r
      · rw [if_pos hm, if_pos (List.mem_cons_of_mem _ hm)]
      · rw [if_neg hm, if_neg (by rw [List.mem_cons, not_or]; exact ⟨Ne.symm hij, hm⟩)]
theorem cwipe_get {c : St} {i : Nat} : ∀ {own : List Nat}, i ∉ own → (L2.wipe c own)[i]? = c[i]?
  | [], _ => rfl
  | j :: r, h => by
    show ((L2.wipe c r).set j none)[i]? = _
    rw [List.mem_cons, not_or] at h
    rw [List.getElem?_set_ne (Ne.symm h.1), cwipe_get h.2]
theorem cwipe_in {c : St} {i : Nat} : ∀ {own : List Nat}, i ∈ own → i < c.length → (L2.wipe c own)[i]? = some none
  | j :: r, h, hl => by
    show ((L2.wipe c r).set j none)[i]? = _
    by_cases hij : j = i
    · subst hij
      rw [List.getElem?_set_self (by rw [L2.wipe_length]; exact hl)]
    · rw [List.getElem?_set_ne hij]
      rcases List.mem_cons.mp h with q | q
      · exact absurd q.symm hij
      · exact cwipe_in q hl
theorem cwipe_eq {c c1 : St} {own : List Nat} (hl : c1.length = c.length) (h : ∀ j, j ∉ own → c1[j]? = (L2.wipe c own)[j]?) : L2.wipe c1 own = L2.wipe c own := by
  apply List.ext_getElem?
  intro i
  by_cases hi : i ∈ own
  · by_cases hb : i < c.length
    · rw [cwipe_in hi hb, cwipe_in hi (by rw [hl]; exact hb)]
    · rw [List.getElem?_eq_none (by rw [L2.wipe_length, hl]; omega), List.getElem?_eq_none (by rw [L2.wipe_length]; omega)]
  · rw [cwipe_get hi, h i hi]
section
variable {K : PySem.W.Frag} {Z Z1 Z2 : Addr → Prop} {H H1 H2 : Hp} {Γ : List SK} {s s1 s2 : Sg} {c : St}
/-- within the block the block's own slots are empty -/
theorem Env.blk (e : Env K Z H Γ s c) {own : List Nat} : Env K Z H (setAll Γ .un own) s (L2.wipe c own) := by
  have hl : (L2.wipe c own).length = c.length := L2.wipe_length _ _
  have lift : ∀ {i : Nat} {k : SK}, k ≠ .un → (setAll Γ .un own)[i]? = some k → Γ[i]? = some k ∧ (L2.wipe c own)[i]? = c[i]? := fun {i k} hk h => by
    rw [setAll_get] at h
    split at h
    · cases h; exact absurd rfl hk
    · rename_i q
      refine ⟨h, cwipe_get fun hm => q ⟨hm, ?_⟩⟩
      exact (List.getElem?_eq_some_iff.mp h).1
  refine ⟨⟨e.len.1.trans hl.symm, by rw [setAll_len, hl]; exact e.len.2⟩, e.zd, fun i h => ?_, fun i h => ?_, fun i j a h1 h2 h3 h4 => ?_⟩
  · obtain ⟨q1, q2⟩ := lift (by decide) h
    rw [q2]; exact e.fr i q1
  · obtain ⟨q1, q2⟩ := lift (by decide) h
    rw [q2]; exact e.ow i q1
  · obtain ⟨p1, p2⟩ := lift (by decide) h1
    obtain ⟨q1, q2⟩ := lift (by decide) h2
    rw [p2] at h3
    rw [q2] at h4
    exact e.inj i j a p1 q1 h3 h4
theorem Own.blk {own : List Nat} {a : Addr} (h : Own (setAll Γ .un own) (L2.wipe c own) a) : Own Γ c a := by
  obtain ⟨i, h1, h2⟩ := h
  rw [setAll_get] at h1
  split at h1
  · cases h1
  · rename_i q
    refine ⟨i, h1, ?_⟩
    rw [← h2]
    exact (cwipe_get fun hm => q ⟨hm, (List.getElem?_eq_some_iff.mp h1).1⟩).symm
theorem Own.toBlk {own : List Nat} (ho : ∀ i ∈ own, Γ[i]? ≠ some .ow) {a : Addr} (h : Own Γ c a) : Own (setAll Γ .un own) (L2.wipe c own) a := by
  obtain ⟨i, h1, h2⟩ := h
  have hi : i ∉ own := fun hm => ho i hm h1
  refine ⟨i, ?_, ?_⟩
  · rw [setAll_get, if_neg fun z => hi z.1]; exact h1
  · rw [cwipe_get hi]; exact h2
/-- another datum where nothing is known -/
theorem Env.data (e : Env K Z H Γ s c) (hl : s1.length = s.length) (h : ∀ i, Γ[i]? ≠ some .un → gt s1 i = gt s i) : Env K Z H Γ s1 c := by
  refine ⟨⟨hl.trans e.len.1, e.len.2⟩, e.zd, fun i q => ?_, fun i q => ?_, e.inj⟩
  · rw [h i (by rw [q]; decide)]; exact e.fr i q
  · rw [h i (by rw [q]; decide)]; exact e.ow i q
theorem PostE.data (p : PostE K Z H Γ c s Z1 H1) (hl : s1.length = s.length) (h : ∀ i, Γ[i]? ≠ some .un → gt s1 i = gt s i) : PostE K Z H Γ c s1 Z1 H1 := ⟨p.zz, p.zn, p.pr, p.env.data hl h⟩
end
end G
end
section
set_option maxRecDepth 10000
/-! A slot that nothing touches holds what it held. -/
namespace G
open PySem L2
mutual
theorem bnd_ne {j : Nat} : ∀ (t : Tg) (d : D) (s s1 : Sg), bnd t d s = some s1 → j ∉ tgS t → gt s1 j = gt s j
  | .name i, d, s, s1, h, hj => by
    have h : (if i < s.length then some (s.set i d) else none) = some s1 := h
    split at h
    · cases h
      exact gt_set_ne fun z => hj (by rw [z]; exact List.mem_singleton.mpr rfl)
    · cases h
  | .tup ts, .tup ds, s, s1, h, hj => by
    have h : (if ts.length = ds.length then bnds ts ds s else none) = some s1 := h
    split at h
    · exact bnds_ne ts ds s s1 h hj
    · cases h
  | .tup ts, .wtp ds, s, s1, h, hj => by
    have h : (if ts.length = ds.length then bnds ts ds s else none) = some s1 := h
    split at h
    · exact bnds_ne ts ds s s1 h hj
    · cases h
  | .tup ts, .lst ds, s, s1, h, hj => by
    have h : (if ts.length = ds.length then bnds ts ds s else none) = some s1 := h
    split at h
    · exact bnds_ne ts ds s s1 h hj
    · cases h
  | .tup _, .non, _, _, h, _ => by cases h
  | .tup _, .bl _, _, _, h, _ => by cases h
  | .tup _, .int _, _, _, h, _ => by cases h
  | .tup _, .str _, _, _, h, _ => by cases h
  | .tup _, .dk _, _, _, h, _ => by cases h
  | .tup _, .dt _, _, _, h, _ => by cases h
  | .tup _, .scr _, _, _, h, _ => by cases h
theorem bnds_ne {j : Nat} : ∀ (ts : List Tg) (ds : List D) (s s1 : Sg), bnds ts ds s = some s1 → j ∉ tgS.tgSs ts → gt s1 j = gt s j
  | [], [], s, s1, h, _ => by cases h; rfl
  | t :: ts, d :: ds, s, s1, h, hj => by
    have h : (match bnd t d s with
      | some s1 => bnds ts ds s1
      | none => none) = some s1 := h
    have hj : j ∉ tgS t ++ tgS.tgSs ts := hj
    rw [List.mem_append, not_or] at hj
    cases e : bnd t d s with
    | none => rw [e] at h; cases h
    | some s2 =>
      rw [e] at h
      rw [bnds_ne ts ds s2 s1 h hj.2, bnd_ne t d s s2 e hj.1]
  | [], _ :: _, _, _, h, _ => by cases h
  | _ :: _, [], _, _, h, _ => by cases h
end
theorem gt_rest_ne {s0 s : Sg} {i : Nat} : ∀ {own : List Nat}, i ∉ own → gt (rest s0 s own) i = gt s i
  | [], _ => rfl
  | j :: r, h => by
    show gt ((rest s0 s r).set j _) i = _
    rw [List.mem_cons, not_or] at h
    rw [gt_set_ne (Ne.symm h.1), gt_rest_ne h.2]
theorem bind_ok {α β : Type} {o : Out α} {f : α → Sg → Out β} {b : β} {s : Sg} (h : o.bind f = .ok b s) : ∃ a s1, o = .ok a s1 ∧ f a s1 = .ok b s := by
  cases o with
  | ok a s1 => exact ⟨a, s1, rfl, h⟩
  | exc x s1 => cases h
  | stuck => cases h
theorem calm_ok {α : Type} {o : Out α} {a : α} {s : Sg} (h : o.calm = .ok a s) : o = .ok a s := by
  cases o with
  | ok a s1 => exact h
  | exc x s1 => cases h
  | stuck => cases h
theorem optD_ok {o : Option D} {s s1 : Sg} {d : D} (h : optD o s = .ok d s1) : o = some d ∧ s1 = s := by
  cases o with
  | none => cases h
  | some e => cases h; exact ⟨rfl, rfl⟩
theorem optB_ok {o : Option Bool} {s s1 : Sg} {d : Bool} (h : optB o s = .ok d s1) : o = some d ∧ s1 = s := by
  cases o with
  | none => cases h
  | some e => cases h; exact ⟨rfl, rfl⟩
theorem compL_ne {j : Nat} {tg : Tg} {ifs : Sg → Out Bool} {elt : Sg → Out D} {own : List Nat} (h1 : ∀ s b s1, ifs s = .ok b s1 → gt s1 j = gt s j) (h2 : ∀ s b s1, elt s = .ok b s1 → gt s1 j = gt s j) (ho : j ∉ own) (ht : j ∉ tgS tg) :
    ∀ (items : List D) (s : Sg) (acc : List D) (r : List D) (s1 : Sg), compL tg ifs elt own items s acc = .ok r s1 → gt s1 j = gt s j
  | [], s, acc, r, s1, h => by cases h; rfl
  | d :: ds, s, acc, r, s1, h => by
    unfold compL at h
    cases e : bnd tg d (wipe s own) with
    | none => rw [e] at h; cases h
    | some s2 =>
      rw [e] at h
      have k2 := (bnd_ne _ _ _ _ e ht).trans (gt_wipe ho)
      obtain ⟨b, s3, e3, h⟩ := bind_ok h
      have k3 := h1 _ _ _ e3
      cases b with
      | false =>
        rw [if_neg Bool.false_ne_true] at h
        rw [compL_ne h1 h2 ho ht ds s3 acc r s1 h, k3, k2]
      | true =>
        rw [if_pos rfl] at h
        obtain ⟨y, s4, e4, h⟩ := bind_ok h
        have k4 := h2 _ _ _ e4
        split at h
        · rw [compL_ne h1 h2 ho ht ds s4 _ r s1 h, k4, k3, k2]
        · cases h
theorem putB_ne {j : Nat} : ∀ {as : CAs} {o s : Sg}, tcAs j as = false → gt (putB as o s) j = gt s j
  | .nil, _, _, _ => rfl
  | .val _ r, o, s, h => by
    have h : (tcE j _ || tcAs j r) = false := h
    rw [Bool.or_eq_false_iff] at h
    exact putB_ne (as := r) h.2
  | .lent i r, [], s, h => rfl
  | .lent i r, d :: o, s, h => by
    have h : (decide (j = i) || tcAs j r) = false := h
    rw [Bool.or_eq_false_iff] at h
    have hi : ¬ j = i := by simpa using h.1
    show gt (putB r o (s.set i d)) j = _
    rw [putB_ne h.2, gt_set_ne (Ne.symm hi)]
mutual
theorem evE_ne {j : Nat} : ∀ (e : CE) (s : Sg) (d : D) (s1 : Sg), evE e s = .ok d s1 → tcE j e = false → gt s1 j = gt s j
  | .var i, s, d, s1, h, _ => by cases h; rfl
  | .pr P as, s, d, s1, h, hj => by
    obtain ⟨ds, s2, e2, h⟩ := bind_ok (show (evEs as s).bind _ = _ from h)
    rw [(optD_ok h).2]
    exact evEs_ne as s ds s2 e2 hj
  | .bool op as, s, d, s1, h, hj => evB_ne op as s d s1 h hj
  | .not a, s, d, s1, h, hj => by
    obtain ⟨x, s2, e2, h⟩ := bind_ok (show (evE a s).bind _ = _ from h)
    obtain ⟨y, s3, e3, h⟩ := bind_ok h
    cases h
    rw [(optB_ok e3).2]
    exact evE_ne a s x s2 e2 hj
  | .ife c a b, s, d, s1, h, hj => by
    have hj : (tcE j c || tcE j a || tcE j b) = false := hj
    rw [Bool.or_eq_false_iff, Bool.or_eq_false_iff] at hj
    obtain ⟨t, s2, e2, h⟩ := bind_ok (show (evT c s).bind _ = _ from h)
    have k2 := evT_ne c s t s2 e2 hj.1.1
    cases t with
    | true =>
      rw [if_pos rfl] at h
      rw [evE_ne a s2 d s1 h hj.1.2, k2]
    | false =>
      rw [if_neg Bool.false_ne_true] at h
      rw [evE_ne b s2 d s1 h hj.2, k2]
  | .call f as, s, d, s1, h, hj => by
    obtain ⟨ds, s2, e2, h⟩ := bind_ok (show (evAs as s).bind _ = _ from h)
    have k2 := evAs_ne as s ds s2 e2 hj
    cases e3 : f.sem (fill as ds s2) with
    | stuck => rw [e3] at h; cases h
    | exc x o => rw [e3] at h; cases h
    | ret d o =>
      rw [e3] at h
      cases h
      rw [putB_ne hj, k2]
  | .pop i as, s, d, s1, h, hj => by
    have hj : (decide (j = i) || tcEs j as) = false := hj
    rw [Bool.or_eq_false_iff] at hj
    have hi : ¬ j = i := by simpa using hj.1
    have h : (if isLst (gt s i) = true then (evEs as s).bind fun ds s1 => match popAt (gt s1 i) ds with
      | some (x, y) => Out.ok x (s1.set i y)
      | none => .stuck
      else .stuck) = .ok d s1 := h
    split at h
    case isFalse => cases h
    obtain ⟨ds, s2, e2, h⟩ := bind_ok h
    have k2 := evEs_ne as s ds s2 e2 hj.2
    cases e3 : popAt (gt s2 i) ds with
    | none => rw [e3] at h; cases h
    | some p =>
      rw [e3] at h
      cases h
      rw [gt_set_ne (Ne.symm hi), k2]
  | .comp P as tg ifs elt own, s, d, s1, h, hj => by
    have hj : (tcEs j as || tcEs j ifs || tcE j elt || decide (j ∈ own) || decide (j ∈ tgS tg)) = false := hj
    simp only [Bool.or_eq_false_iff, decide_eq_false_iff_not] at hj
    obtain ⟨⟨⟨⟨h1, h2⟩, h3⟩, h4⟩, h5⟩ := hj
    obtain ⟨ds, s2, e2, h⟩ := bind_ok (show (evEs as s).bind _ = _ from h)
    have k2 := evEs_ne as s ds s2 e2 h1
    cases e3 : P.sem ds with
    | none => rw [e3] at h; cases h
    | some items =>
      rw [e3] at h
      obtain ⟨acc, s3, e4, h⟩ := bind_ok h
      cases h
      rw [gt_rest_ne h4, compL_ne (fun s b s1 q => evTs_ne ifs s b s1 q h2) (fun s b s1 q => evE_ne elt s b s1 q h3) h4 h5 _ _ _ _ _ (calm_ok e4), k2]
  | .keys i tg ifs elt own, s, d, s1, h, hj => by
    have hj : (tcEs j ifs || tcE j elt || decide (j ∈ own) || decide (j ∈ tgS tg)) = false := hj
    simp only [Bool.or_eq_false_iff, decide_eq_false_iff_not] at hj
    obtain ⟨⟨⟨h2, h3⟩, h4⟩, h5⟩ := hj
    have h : (match keysOf (gt s i) with
      | none => Out.stuck
      | some items => ((compL tg (fun s2 => evTs ifs s2) (fun s2 => evE elt s2) own items s []).calm).bind fun acc s2 => Out.ok (D.lst acc) (rest s s2 own)) = .ok d s1 := h
    cases e3 : keysOf (gt s i) with
    | none => rw [e3] at h; cases h
    | some items =>
      rw [e3] at h
      obtain ⟨acc, s3, e4, h⟩ := bind_ok h
      cases h
      rw [gt_rest_ne h4, compL_ne (fun s b s1 q => evTs_ne ifs s b s1 q h2) (fun s b s1 q => evE_ne elt s b s1 q h3) h4 h5 _ _ _ _ _ (calm_ok e4)]
  | .meth M o as, s, d, s1, h, hj => by
    have hj : (tcE j o || tcEs j as) = false := hj
    rw [Bool.or_eq_false_iff] at hj
    obtain ⟨x, s2, e2, h⟩ := bind_ok (show (evE o s).bind _ = _ from h)
    split at h
    · obtain ⟨ds, s3, e3, h⟩ := bind_ok h
      rw [(optD_ok h).2, evEs_ne as s2 ds s3 e3 hj.2, evE_ne o s x s2 e2 hj.1]
    · cases h
  | .chain l1 l2 a b c, s, d, s1, h, hj => by
    have hj : (tcE j a || tcE j b || tcE j c) = false := hj
    rw [Bool.or_eq_false_iff, Bool.or_eq_false_iff] at hj
    obtain ⟨x, s2, e2, h⟩ := bind_ok (show (evE a s).bind _ = _ from h)
    obtain ⟨y, s3, e3, h⟩ := bind_ok h
    obtain ⟨t, s4, e4, h⟩ := bind_ok h
    have k3 : gt s4 j = gt s j := by rw [(optB_ok e4).2, evE_ne b s2 y s3 e3 hj.1.2, evE_ne a s x s2 e2 hj.1.1]
    split at h
    · obtain ⟨z, s5, e5, h⟩ := bind_ok h
      obtain ⟨u, s6, e6, h⟩ := bind_ok h
      cases h
      rw [(optB_ok e6).2, evE_ne c s4 z s5 e5 hj.2, k3]
    · cases h
      exact k3
theorem evEs_ne {j : Nat} : ∀ (es : CEs) (s : Sg) (ds : List D) (s1 : Sg), evEs es s = .ok ds s1 → tcEs j es = false → gt s1 j = gt s j
  | .nil, s, d, s1, h, _ => by cases h; rfl
  | .cons c cs, s, d, s1, h, hj => by
    have hj : (tcE j c || tcEs j cs) = false := hj
    rw [Bool.or_eq_false_iff] at hj
    obtain ⟨x, s2, e2, h⟩ := bind_ok (show (evE c s).bind _ = _ from h)
    obtain ⟨y, s3, e3, h⟩ := bind_ok h
    cases h
    rw [evEs_ne cs s2 y s1 e3 hj.2, evE_ne c s x s2 e2 hj.1]
theorem evAs_ne {j : Nat} : ∀ (es : CAs) (s : Sg) (ds : List D) (s1 : Sg), evAs es s = .ok ds s1 → tcAs j es = false → gt s1 j = gt s j
  | .nil, s, d, s1, h, _ => by cases h; rfl
  | .val c cs, s, d, s1, h, hj => by
    have hj : (tcE j c || tcAs j cs) = false := hj
    rw [Bool.or_eq_false_iff] at hj
    obtain ⟨x, s2, e2, h⟩ := bind_ok (show (evE c s).bind _ = _ from h)
    obtain ⟨y, s3, e3, h⟩ := bind_ok h
    cases h
    rw [evAs_ne cs s2 y s1 e3 hj.2, evE_ne c s x s2 e2 hj.1]
  | .lent i cs, s, d, s1, h, hj => by
    have hj : (decide (j = i) || tcAs j cs) = false := hj
    rw [Bool.or_eq_false_iff] at hj
    exact evAs_ne cs s d s1 h hj.2
theorem evB_ne {j : Nat} : ∀ (op : Bool) (es : CEs) (s : Sg) (d : D) (s1 : Sg), evB op es s = .ok d s1 → tcEs j es = false → gt s1 j = gt s j
  | op, .nil, s, d, s1, h, _ => by cases op <;> cases h
  | op, .cons c .nil, s, d, s1, h, hj => by
    have hj : (tcE j c || false) = false := hj
    rw [Bool.or_eq_false_iff] at hj
    exact evE_ne c s d s1 (by cases op <;> exact h) hj.1
  | op, .cons c (.cons c2 cs), s, d, s1, h, hj => by
    have hj : (tcE j c || tcEs j (.cons c2 cs)) = false := hj
    rw [Bool.or_eq_false_iff] at hj
    have h : ((evE c s).bind fun d s1 => (optB (tru d) s1).bind fun b s2 => if b = op then evB op (.cons c2 cs) s2 else .ok d s2) = .ok d s1 := by cases op <;> exact h
    obtain ⟨x, s2, e2, h⟩ := bind_ok h
    have k2 := evE_ne c s x s2 e2 hj.1
    obtain ⟨y, s3, e3, h4⟩ := bind_ok h
    have k3 := (optB_ok e3).2
    subst k3
    by_cases hy : y = op
    · rw [if_pos hy] at h4
      rw [evB_ne op (.cons c2 cs) _ d s1 h4 hj.2, k2]
    · rw [if_neg hy] at h4
      cases h4
      exact k2
theorem evT_ne {j : Nat} : ∀ (e : CE) (s : Sg) (d : Bool) (s1 : Sg), evT e s = .ok d s1 → tcE j e = false → gt s1 j = gt s j
  | .var i, s, d, s1, h, _ => by rw [(optB_ok (show optB (tru (gt s i)) s = _ from h)).2]
  | .pr P as, s, d, s1, h, hj => by
    obtain ⟨ds, s2, e2, h⟩ := bind_ok (show (evEs as s).bind _ = _ from h)
    obtain ⟨x, s3, e3, h⟩ := bind_ok h
    rw [(optB_ok h).2, (optD_ok e3).2]
    exact evEs_ne as s ds s2 e2 hj
  | .bool op as, s, d, s1, h, hj => evBT_ne op as s d s1 h hj
  | .not a, s, d, s1, h, hj => by
    obtain ⟨x, s2, e2, h⟩ := bind_ok (show (evT a s).bind _ = _ from h)
    cases h
    exact evT_ne a s x s1 e2 hj
  | .ife c a b, s, d, s1, h, hj => by cases h
  | .call f as, s, d, s1, h, hj => by
    obtain ⟨ds, s2, e2, h⟩ := bind_ok (show (evAs as s).bind _ = _ from h)
    have k2 := evAs_ne as s ds s2 e2 hj
    cases e3 : f.sem (fill as ds s2) with
    | stuck => rw [e3] at h; cases h
    | exc x o => rw [e3] at h; cases h
    | ret d o =>
      rw [e3] at h
      rw [(optB_ok h).2, putB_ne hj, k2]
  | .pop i as, s, d, s1, h, hj => by cases h
  | .comp P as tg ifs elt own, s, d, s1, h, hj => by
    have hj : (tcEs j as || tcEs j ifs || tcE j elt || decide (j ∈ own) || decide (j ∈ tgS tg)) = false := hj
    simp only [Bool.or_eq_false_iff, decide_eq_false_iff_not] at hj
    obtain ⟨⟨⟨⟨h1, h2⟩, h3⟩, h4⟩, h5⟩ := hj
    obtain ⟨ds, s2, e2, h⟩ := bind_ok (show (evEs as s).bind _ = _ from h)
    have k2 := evEs_ne as s ds s2 e2 h1
    cases e3 : P.sem ds with
    | none => rw [e3] at h; cases h
    | some items =>
      rw [e3] at h
      obtain ⟨acc, s3, e4, h⟩ := bind_ok h
      cases h
      rw [gt_rest_ne h4, compL_ne (fun s b s1 q => evTs_ne ifs s b s1 q h2) (fun s b s1 q => evE_ne elt s b s1 q h3) h4 h5 _ _ _ _ _ (calm_ok e4), k2]
  | .keys i tg ifs elt own, s, d, s1, h, hj => by cases h
  | .meth M o as, s, d, s1, h, hj => by
    have hj : (tcE j o || tcEs j as) = false := hj
    rw [Bool.or_eq_false_iff] at hj
    obtain ⟨x, s2, e2, h⟩ := bind_ok (show (evE o s).bind _ = _ from h)
    split at h
    · obtain ⟨ds, s3, e3, h⟩ := bind_ok h
      obtain ⟨r, s4, e4, h⟩ := bind_ok h
      rw [(optB_ok h).2, (optD_ok e4).2, evEs_ne as s2 ds s3 e3 hj.2, evE_ne o s x s2 e2 hj.1]
    · cases h
  | .chain l1 l2 a b c, s, d, s1, h, hj => by
    have hj : (tcE j a || tcE j b || tcE j c) = false := hj
    rw [Bool.or_eq_false_iff, Bool.or_eq_false_iff] at hj
    obtain ⟨x, s2, e2, h⟩ := bind_ok (show (evE a s).bind _ = _ from h)
    obtain ⟨y, s3, e3, h⟩ := bind_ok h
    obtain ⟨t, s4, e4, h⟩ := bind_ok h
    have k3 : gt s4 j = gt s j := by rw [(optB_ok e4).2, evE_ne b s2 y s3 e3 hj.1.2, evE_ne a s x s2 e2 hj.1.1]
    split at h
    · obtain ⟨z, s5, e5, h⟩ := bind_ok h
      rw [(optB_ok h).2, evE_ne c s4 z s5 e5 hj.2, k3]
    · cases h
      exact k3
theorem evBT_ne {j : Nat} : ∀ (op : Bool) (es : CEs) (s : Sg) (d : Bool) (s1 : Sg), evBT op es s = .ok d s1 → tcEs j es = false → gt s1 j = gt s j
  | op, .nil, s, d, s1, h, _ => by cases op <;> cases h
  | op, .cons c .nil, s, d, s1, h, hj => by
    have hj : (tcE j c || false) = false := hj
    rw [Bool.or_eq_false_iff] at hj
    exact evT_ne c s d s1 (by cases op <;> exact h) hj.1
  | op, .cons c (.cons c2 cs), s, d, s1, h, hj => by
    have hj : (tcE j c || tcEs j (.cons c2 cs)) = false := hj
    rw [Bool.or_eq_false_iff] at hj
    have h : ((evT c s).bind fun b s2 => if b = op then evBT op (.cons c2 cs) s2 else .ok b s2) = .ok d s1 := by cases op <;> exact h
    obtain ⟨x, s2, e2, h⟩ := bind_ok h
    have k2 := evT_ne c s x s2 e2 hj.1
    by_cases hy : x = op
    · rw [if_pos hy] at h
      rw [evBT_ne op (.cons c2 cs) s2 d s1 h hj.2, k2]
    · rw [if_neg hy] at h
      cases h
      exact k2
theorem evTs_ne {j : Nat} : ∀ (es : CEs) (s : Sg) (d : Bool) (s1 : Sg), evTs es s = .ok d s1 → tcEs j es = false → gt s1 j = gt s j
  | .nil, s, d, s1, h, _ => by cases h; rfl
  | .cons c .nil, s, d, s1, h, hj => by
    have hj : (tcE j c || false) = false := hj
    rw [Bool.or_eq_false_iff] at hj
    exact evT_ne c s d s1 h hj.1
  | .cons c (.cons c2 cs), s, d, s1, h, hj => by cases h
end
end G
end
section
set_option maxRecDepth 10000
/-! Comprehensions. -/
namespace G
open PySem L2
section
variable {K : PySem.W.Frag} {Z Z1 Z2 : Addr → Prop} {H H1 H2 : Hp} {Γ : List SK} {s s1 s2 : Sg} {c : St}
theorem Args.mono (m : Mono Z H Z1 H1) (k : ∀ a o, H a = some o → H1 a = some o) : ∀ {j : Nat} {ds : List D} {vs : List V}, Args K Z H (fun _ => false) j ds vs → Args K Z1 H1 (fun _ => false) j ds vs
  | _, [], _, h => h
  | j, d :: ds, _, ⟨v, r, e, h1, h2⟩ => by
    rw [if_neg Bool.false_ne_true] at h1
    exact ⟨v, r, e, by rw [if_neg Bool.false_ne_true]; exact h1.mono m k, Args.mono m k h2⟩
/-- what is walked is still there, in the block, whatever was done -/
theorem KVs.later {H0 : Hp} {own : List Nat} {ifs : CEs} {elt : CE} (e : Env K Z1 H1 Γ s1 c) (p : PostE K Z1 H1 (setAll Γ .un own) (L2.wipe c own) s2 Z2 H2)
    (hs : ∀ j, tcEs j ifs = false → tcE j elt = false → j ∉ own → gt s2 j = gt s1 j) : ∀ {ks : List Kd} {ds : List D} {vs : List V} {j : Nat}, KVs K H0 Γ c s1 Z1 H1 ks ds vs → quietAll ks ifs elt own = true → Args K Z2 H2 (fun _ => false) j ds vs
  | [], _, _, _, ⟨h1, h2⟩, _ => by subst h1; subst h2; rfl
  | k :: ks, _, _, j, ⟨d, dr, v, vr, e1, e2, h1, h2⟩, hq => by
    subst e1; subst e2
    have hq : (quiet2 ifs elt own k && quietAll ks ifs elt own) = true := hq
    rw [Bool.and_eq_true] at hq
    refine ⟨v, vr, rfl, ?_, KVs.later e p hs h2 hq.2⟩
    rw [if_neg Bool.false_ne_true]
    have m : Mono Z1 H1 Z2 H2 := p.mono e.blk
    cases k with
    | fz => exact .inl (Rp.mono m _ _ h1)
    | nw =>
      obtain ⟨a, x1, x2, x3, x4, x5⟩ := h1
      obtain ⟨o, ho, _⟩ := x5.at
      exact .inr ⟨a, x1, x5.mono m ((p.pr a o ho fun w => x4 w.blk).trans ho.symm)⟩
    | bo i =>
      obtain ⟨x1, x2, x3⟩ := h1
      have hq : (!tcEs i ifs && !tcE i elt && !decide (i ∈ own)) = true := hq.1
      simp only [Bool.and_eq_true, Bool.not_eq_true', decide_eq_false_iff_not] at hq
      have g : (setAll Γ .un own)[i]? = some .ow := by rw [setAll_get, if_neg fun z => hq.2 z.1]; exact x1
      obtain ⟨a, y1, y2, y3⟩ := p.env.ow i g
      rw [cwipe_get hq.2, x2] at y1
      cases y1
      refine .inr ⟨a, rfl, ?_⟩
      rw [x3, ← hs i hq.1.1 hq.1.2 hq.2]
      exact y3
/-- a place that is neither frozen nor a slot's own is written -/
theorem Env.beside (e : Env K Z H Γ s c) {a : Addr} {o u : HO} (nz : ¬ Z a) (no : ¬ Own Γ c a) (hu : H a = some u) (tu : isTop u = true) : Mono Z H Z (upd H a o) ∧ Env K Z (upd H a o) Γ s c := by
  have m : Mono Z H Z (upd H a o) := ⟨fun _ h => h, fun b w h q => by
    rw [upd_ne]
    · exact h
    · rintro rfl
      rw [hu] at h; cases h
      rcases q with q | q
      · exact nz q
      · rw [q] at tu; cases tu⟩
  refine ⟨m, e.len, fun b h => ?_, fun i h => ?_, fun i h => ?_, e.inj⟩
  · by_cases hb : b = a
    · rw [hb, upd_same]; exact fun z => nomatch z
    · rw [upd_ne hb]; exact e.zd b h
  · obtain ⟨v, h1, h2⟩ := e.fr i h
    exact ⟨v, h1, Rp.mono m _ _ h2⟩
  · obtain ⟨b, h1, h2, h3⟩ := e.ow i h
    refine ⟨b, h1, h2, h3.mono m (upd_ne fun z => no ?_)⟩
    subst z
    exact ⟨i, h, h1⟩
end
theorem calm_of {α : Type} {o : Out α} {a : α} {s : Sg} (h : o = .ok a s) : o.calm = .ok a s := by rw [h]; rfl
/-- the turns of a comprehension: from any state of the block on, what is left comes to the end -/
theorem turns {C : Cn} {Γ : List SK} {c : St} {tg : Tg} {ifs : CEs} {elt : CE} {own : List Nat} {kd : Kd} (hk : kd.firm = true) (hown : tgS tg = own) (hno : ∀ i ∈ own, Γ[i]? ≠ some .ow) (hin : ∀ i ∈ own, i < Γ.length)
    {J : It} {items : List D} {Z1 : Addr → Prop} {H1 : Hp} {s1 : Sg} (e1 : Env C.K Z1 H1 Γ s1 c) {accF : List D} {sF : Sg} (hF : compL tg (fun s2 => evTs ifs s2) (fun s2 => evE elt s2) own items s1 [] = .ok accF sF)
    (good : ∀ (Z : Addr → Prop) (H : Hp) (s : Sg), PostE C.K Z1 H1 (setAll Γ .un own) (L2.wipe c own) s Z H → (∀ j, tcEs j ifs = false → tcE j elt = false → j ∉ own → gt s j = gt s1 j) →
      (∀ (i : Nat) (d : D), items[i]? = some d → J.go i H ∧ ∀ x H1, J.yld i H x H1 → (∀ a o, H a = some o → H1 a = some o) ∧ Rp C.K Z H1 d x) ∧ ∀ i, items.length ≤ i → J.stop i H)
    {D0 : Addr} (hD : H1 D0 = none) {Q : Hp → Prop}
    (fin : ∀ (Z : Addr → Prop) (H : Hp), PostE C.K Z1 H1 (setAll Γ .un own) (L2.wipe c own) sF Z H → ¬ Z D0 → Top C.K Z H D0 (.lst accF) → Q H) :
    ∃ W : Nat → Nat → Hp → Prop, (∃ m, W 0 m (upd H1 D0 (.lst []))) ∧ ∀ i m H, W i m H →
      (J.stop i H ∧ Q H) ∨ (J.go i H ∧ ∃ Nx : Hp → Prop, (∀ H', Nx H' → ∃ m', m' < m ∧ W (i + 1) m' H') ∧ ∀ x H', J.yld i H x H' → gT C.K tg x (L2.wipe c own) H' fun σ2 H2 => L2.wipe σ2 own = L2.wipe c own ∧ tTs C W0 (setAll Γ .fr own) ifs σ2 H2 fun b H3 =>
        if b = true then tE C W0 (setAll Γ .fr own) elt kd σ2 H3 fun y H4 => ∃ acc, H4 D0 = some (.lst acc) ∧ acc.length < sizeLine ∧ Nx (upd H4 D0 (.lst (acc ++ [y]))) else Nx H3) := by
  have cl : (L2.wipe c own).length = c.length := L2.wipe_length _ _
  have eB : Env C.K Z1 H1 (setAll Γ .un own) s1 (L2.wipe c own) := e1.blk
  have nD : ¬ Own (setAll Γ .un own) (L2.wipe c own) D0 := fun w => by
    obtain ⟨_, o, ho, _⟩ := eB.own w
    rw [hD] at ho; cases ho
  have nZ1 : ¬ Z1 D0 := fun z => e1.zd D0 z hD
  let Inv : Nat → Hp → Prop := fun i H => ∃ (Z : Addr → Prop) (s : Sg) (acc : List D) (accV : List V), PostE C.K Z1 H1 (setAll Γ .un own) (L2.wipe c own) s Z H ∧ H D0 = some (.lst accV) ∧ ¬ Z D0 ∧ RpL C.K Z H acc accV ∧
    compL tg (fun s2 => evTs ifs s2) (fun s2 => evE elt s2) own (items.drop i) s acc = .ok accF sF ∧ ∀ j, tcEs j ifs = false → tcE j elt = false → j ∉ own → gt s j = gt s1 j
  refine ⟨fun i m H => m = items.length - i ∧ i ≤ items.length ∧ Inv i H, ⟨items.length, by simp, Nat.zero_le _, ?_⟩, ?_⟩
  · refine ⟨Z1, s1, [], [], ⟨fun _ h => h, fun _ h => .inl h, fun a o h _ => ?_, ?_⟩, upd_same, nZ1, rfl, by rw [List.drop_zero]; exact hF, fun _ _ _ _ => rfl⟩
    · rw [upd_ne fun z => by rw [z, hD] at h; cases h]; exact h
    · refine eB.more (fun _ h => h) (fun _ h => .inl h) (fun a h => ?_) fun a o h => ?_
      · rw [upd_ne fun z => nZ1 (by rw [← z]; exact h)]; exact e1.zd a h
      · rw [upd_ne fun z => by rw [z, hD] at h; cases h]; exact h
  · rintro i m H ⟨rfl, hi, Z, s, acc, accV, p, hDo, hZD, hacc, hcl, hsame⟩
    obtain ⟨g1, g2⟩ := good Z H s p hsame
    by_cases hlt : i < items.length
    · refine .inr ⟨(g1 i _ (List.getElem?_eq_getElem hlt)).1, Inv (i + 1), fun H' p' => ⟨items.length - (i + 1), by omega, rfl, hlt, p'⟩, fun x H' hy => ?_⟩
      obtain ⟨st, rx⟩ := (g1 i _ (List.getElem?_eq_getElem hlt)).2 x H' hy
      rw [List.drop_eq_getElem_cons hlt] at hcl
      unfold compL at hcl
      cases eb : bnd tg items[i] (wipe s own) with
      | none => rw [eb] at hcl; cases hcl
      | some s2 =>
        rw [eb] at hcl
        -- the state at the turn's item
        have pe : Env C.K Z H' (setAll Γ .un own) s (L2.wipe c own) := p.env.more (fun _ h => h) (fun _ h => .inl h) (fun a h => by
          cases q : H a with
          | none => exact absurd q (p.env.zd a h)
          | some o => rw [st a o q]; exact fun z => nomatch z) st
        have pw : Env C.K Z H' (setAll Γ .un own) (wipe s own) (L2.wipe c own) := pe.data (len_wipe _) fun j hj => gt_wipe fun hm => hj (by
          rw [setAll_get, if_pos ⟨hm, hin j hm⟩])
        refine bnd_sound tg items[i] x (wipe s own) s2 _ _ _ pw (.inl rx) (fun _ _ => rx) eb fun c2 e2 k2 => ?_
        rw [hown] at e2 k2
        have e2 : Env C.K Z H' (setAll Γ .fr own) s2 c2 := e2.congr fun j => by
          rw [setAll_get, setAll_get, setAll_len, setAll_get]
          by_cases hj : j ∈ own ∧ j < Γ.length
          · rw [if_pos hj, if_pos hj]
          · rw [if_neg hj, if_neg hj, if_neg hj]
        have hc2 : c2.length = c.length := by
          have := e2.len.2
          rw [setAll_len] at this
          rw [← this]; exact e1.len.2
        refine ⟨cwipe_eq hc2 fun j hj => k2 j hj, Z, s2, e2, ?_⟩
        -- back to the block
        have back : ∀ {Z3 : Addr → Prop} {H3 : Hp} {s3 : Sg}, PostE C.K Z H' (setAll Γ .fr own) c2 s3 Z3 H3 → PostE C.K Z1 H1 (setAll Γ .un own) (L2.wipe c own) s3 Z3 H3 := fun {Z3 H3 s3} q => by
          have ow : ∀ a, Own (setAll Γ .fr own) c2 a → Own (setAll Γ .un own) (L2.wipe c own) a := by
            rintro a ⟨j, h1, h2⟩
            rw [setAll_get] at h1
            split at h1
            · cases h1
            · rename_i hj
              have hjo : j ∉ own := fun hm => hj ⟨hm, hin j hm⟩
              exact ⟨j, by rw [setAll_get, if_neg hj]; exact h1, by rw [← k2 j hjo]; exact h2⟩
          refine ⟨fun a h => q.zz a (p.zz a h), fun a h => ?_, fun a o h w => q.pr a o (st a o (p.pr a o h w)) fun w2 => w (ow a w2), ?_⟩
          · rcases q.zn a h with h | h
            · exact p.zn a h
            · refine .inr (p.none eB ?_)
              cases e0 : H a with
              | none => rfl
              | some o => rw [st a o e0] at h; cases h
          · have w1 : Env C.K Z3 H3 (setAll Γ .un own) s3 c2 := q.env.weak (by rw [setAll_len, setAll_len]) fun j => by
              rw [setAll_get, setAll_get]
              by_cases hj : j ∈ own ∧ j < Γ.length
              · rw [if_pos hj]; exact .inr rfl
              · rw [if_neg hj, if_neg hj]; exact .inl rfl
            have cj : ∀ j k, k ≠ SK.un → (setAll Γ .un own)[j]? = some k → (L2.wipe c own)[j]? = c2[j]? := fun j k hk h => (k2 j fun hm => by
              rw [setAll_get, if_pos ⟨hm, hin j hm⟩] at h; cases h; exact hk rfl).symm
            refine ⟨⟨w1.len.1.trans (hc2.trans cl.symm), w1.len.2.trans (hc2.trans cl.symm)⟩, w1.zd, fun j h => ?_, fun j h => ?_, fun j k a h1 h2 h3 h4 => ?_⟩
            · rw [cj j _ (by decide) h]; exact w1.fr j h
            · rw [cj j _ (by decide) h]; exact w1.ow j h
            · rw [cj j _ (by decide) h1] at h3
              rw [cj k _ (by decide) h2] at h4
              exact w1.inj j k a h1 h2 h3 h4
        have ownD : ¬ Own (setAll Γ .fr own) c2 D0 := fun w => by
          obtain ⟨j, h1, h2⟩ := w
          rw [setAll_get] at h1
          split at h1
          · cases h1
          · rename_i hj
            exact nD ⟨j, by rw [setAll_get, if_neg hj]; exact h1, by rw [← k2 j fun hm => hj ⟨hm, hin j hm⟩]; exact h2⟩
        have hD' : H' D0 = some (.lst accV) := st _ _ hDo
        have keepD : ∀ {Z3 : Addr → Prop} {H3 : Hp} {s3 : Sg}, PostE C.K Z H' (setAll Γ .fr own) c2 s3 Z3 H3 → H3 D0 = some (.lst accV) ∧ ¬ Z3 D0 ∧ RpL C.K Z3 H3 acc accV := fun {Z3 H3 s3} q => by
          refine ⟨q.pr _ _ hD' ownD, fun z => ?_, ?_⟩
          · rcases q.zn _ z with z | z
            · exact hZD z
            · rw [hD'] at z; cases z
          · exact RpL.mono (Mono.trans ⟨fun _ h => h, fun a o h _ => st a o h⟩ (q.mono e2)) _ _ hacc
        have sm2 : ∀ j, tcEs j ifs = false → tcE j elt = false → j ∉ own → gt s2 j = gt s1 j := fun j h1 h2 h3 => by
          rw [bnd_ne tg _ _ _ eb (by rw [hown]; exact h3), gt_wipe h3, hsame j h1 h2 h3]
        have hcl : ((evTs ifs s2).bind fun b s2 => if b = true then (evE elt s2).bind fun y s3 => if acc.length < sizeLine then compL tg (fun s2 => evTs ifs s2) (fun s2 => evE elt s2) own (items.drop (i + 1)) s3 (acc ++ [y]) else .stuck else compL tg (fun s2 => evTs ifs s2) (fun s2 => evE elt s2) own (items.drop (i + 1)) s2 acc) = .ok accF sF := hcl
        cases et : evTs ifs s2 with
        | stuck => rw [et] at hcl; cases hcl
        | exc x s3 => rw [et] at hcl; cases hcl
        | ok b s3 =>
          rw [et, Out.bind_ok] at hcl
          intro H3 Z3 q3
          have sm3 : ∀ j, tcEs j ifs = false → tcE j elt = false → j ∉ own → gt s3 j = gt s1 j := fun j h1 h2 h3 => by
            rw [evTs_ne ifs s2 b s3 et h1, sm2 j h1 h2 h3]
          cases b with
          | false =>
            rw [if_neg Bool.false_ne_true] at hcl ⊢
            obtain ⟨k1, k2', k3⟩ := keepD q3
            exact ⟨Z3, s3, acc, accV, back q3, k1, k2', k3, hcl, sm3⟩
          | true =>
            rw [if_pos rfl] at hcl ⊢
            refine ⟨Z3, s3, q3.env, ?_⟩
            cases ee : evE elt s3 with
            | stuck => rw [ee] at hcl; cases hcl
            | exc x s4 => rw [ee] at hcl; cases hcl
            | ok y s4 =>
              rw [ee, Out.bind_ok] at hcl
              have hz : acc.length < sizeLine := by
                split at hcl
                · assumption
                · cases hcl
              rw [if_pos hz] at hcl
              intro v H4 Z4 q4 kv
              have q34 := q3.trans e2 q4
              obtain ⟨k1, k2', k3⟩ := keepD q34
              obtain ⟨Z5, z1, z2, z3, z4, ry⟩ := kv.give q4.env hk
              refine ⟨accV, k1, by rw [← k3.len]; exact hz, ?_⟩
              have pb := back q34
              have nZ5 : ¬ Z5 D0 := fun z => by
                rcases z2 _ z with z | z
                · exact k2' z
                · rw [(keepD q3).1] at z; cases z
              have e5 : Env C.K Z5 H4 (setAll Γ .un own) s4 (L2.wipe c own) := pb.env.grow z1 z3 fun a z w => z4 a z (by
                obtain ⟨j, h1, h2⟩ := w
                rw [setAll_get] at h1
                split at h1
                · cases h1
                · rename_i hj
                  exact ⟨j, by rw [setAll_get, if_neg hj]; exact h1, by rw [k2 j fun hm => hj ⟨hm, hin j hm⟩]; exact h2⟩)
              obtain ⟨m6, e6⟩ := e5.beside (o := .lst (accV ++ [v])) nZ5 nD k1 rfl
              refine ⟨Z5, s4, acc ++ [y], accV ++ [v], ⟨fun a h => z1 a (pb.zz a h), fun a h => ?_, fun a o h w => ?_, e6⟩, upd_same, nZ5, ?_, hcl, fun j h1 h2 h3 => ?_⟩
              · rcases z2 a h with h | h
                · exact pb.zn a h
                · exact .inr ((back q3).none eB h)
              · rw [upd_ne fun z => by rw [z, hD] at h; cases h]
                exact pb.pr a o h w
              · exact RpL.append (RpL.mono m6 _ _ (RpL.mono ⟨z1, fun _ _ h _ => h⟩ _ _ k3)) (.one (Rp.mono m6 _ _ ry))
              · rw [evE_ne elt s3 y s4 ee h2, sm3 j h1 h2 h3]
    · have hn : i = items.length := by omega
      subst hn
      refine .inl ⟨g2 _ (Nat.le_refl _), ?_⟩
      rw [List.drop_length] at hcl
      have hcl : Out.ok acc s = .ok accF sF := hcl
      cases hcl
      exact fin Z H p hZD ⟨accV, hDo, hacc⟩
theorem set_fold {it : Expr} {env : PySem.Env} (h : isSet it = false) : ∀ x, foldedSetIterable it env x = pure x := by
  intro x
  cases it <;> first | rfl | cases h
/-- behind the turns: the def's own slots again -/
theorem comp_back {K : PySem.W.Frag} {Γ : List SK} {c : St} {own : List Nat} {Z Z1 Z2 : Addr → Prop} {H H1 H2 : Hp} {s s1 sF : Sg} (hno : ∀ i ∈ own, Γ[i]? ≠ some .ow) (hin : ∀ i ∈ own, i < Γ.length) (env : Env K Z H Γ s c) (p : PostE K Z H Γ c s1 Z1 H1)
    (q : PostE K Z1 H1 (setAll Γ .un own) (L2.wipe c own) sF Z2 H2) : PostE K Z H Γ c (rest s1 sF own) Z2 H2 := by
  have eB := p.env.blk (own := own)
  have hl : s1.length = sF.length := by
    rw [p.env.len.1, ← L2.wipe_length c own, ← q.env.len.1]
  have m := q.mono eB
  refine ⟨fun a h => q.zz a (p.zz a h), fun a h => ?_, fun a o h w => q.pr a o (p.pr a o h w) fun w2 => w w2.blk, ⟨⟨?_, env.len.2⟩, q.env.zd, fun i h => ?_, fun i h => ?_, env.inj⟩⟩
  · rcases q.zn a h with h | h
    · exact p.zn a h
    · exact .inr (p.none env h)
  · rw [len_rest, ← hl]; exact p.env.len.1
  · rw [gt_rest hl]
    by_cases hi : i ∈ own
    · rw [if_pos hi]
      obtain ⟨v, h1, h2⟩ := p.env.fr i h
      exact ⟨v, h1, Rp.mono m _ _ h2⟩
    · rw [if_neg hi]
      obtain ⟨v, h1, h2⟩ := q.env.fr i (by rw [setAll_get, if_neg fun z => hi z.1]; exact h)
      exact ⟨v, by rw [← cwipe_get hi]; exact h1, h2⟩
  · have hi : i ∉ own := fun hm => hno i hm h
    rw [gt_rest hl, if_neg hi]
    obtain ⟨a, h1, h2⟩ := q.env.ow i (by rw [setAll_get, if_neg fun z => hi z.1]; exact h)
    exact ⟨a, by rw [← cwipe_get hi]; exact h1, h2⟩
theorem comp_read {C : Cn} {W : WX} {Γ : List SK} {P : Ip} {as : CEs} {ks : List Kd} {ts : List TE} {tg : Tg} {ifs : CEs} {elt : CE} {own : List Nat} {kd : Kd} (hq : quietAll ks ifs elt own = true)
    (h : ∀ c H R, tEs C W Γ as ks c H R → tAll ts c H R) (hk : kd.firm = true) (hown : tgS tg = own) (hno : ∀ i ∈ own, Γ[i]? ≠ some .ow) (hin : ∀ i ∈ own, i < Γ.length) :
    ∀ c H Q, tE C W Γ (.comp P as tg ifs elt own) .nw c H Q → tLc (tIp C P (tAll ts)) (gT C.K tg) (tTs C W0 (setAll Γ .fr own) ifs) (tE C W0 (setAll Γ .fr own) elt kd) own c H Q := by
  rintro c H Q ⟨Z, s, env, q⟩
  refine h c H _ ⟨Z, s, env, ?_⟩
  have ev : evE (.comp P as tg ifs elt own) s = (evEs as s).bind fun ds s1 => match P.sem ds with
    | none => .stuck
    | some items => ((compL tg (fun s2 => evTs ifs s2) (fun s2 => evE elt s2) own items s1 []).calm).bind fun acc s2 => .ok (.lst acc) (rest s1 s2 own) := rfl
  rw [ev] at q
  cases e1 : evEs as s with
  | stuck => rw [e1] at q; exact q
  | exc x s1 => rw [e1] at q; exact q
  | ok ds s1 =>
    rw [e1, Out.bind_ok] at q
    intro vs H1 Z1 p kv _
    cases e3 : P.sem ds with
    | none => rw [e3] at q; exact q.elim
    | some items =>
      rw [e3] at q
      dsimp only at q
      cases e4 : compL tg (fun s2 => evTs ifs s2) (fun s2 => evE elt s2) own items s1 [] with
      | stuck => rw [e4] at q; exact q.elim
      | exc x s2 => rw [e4] at q; exact q.elim
      | ok acc sF =>
        rw [e4] at q
        have e1B := p.env.blk (own := own)
        refine ⟨Z1, ds, items, p.env.zd, ?_, e3, fun J hJ D0 hD => ?_⟩
        · exact KVs.later (ifs := ifs) (elt := elt) p.env (.refl e1B) (fun _ _ _ _ => rfl) kv hq
        · refine turns hk hown hno hin p.env e4 (fun Z2 H2 s2 p2 hs => ?_) hD fun Z2 H2 p2 nz t => ?_
          · obtain ⟨g1, g2⟩ := hJ Z2 H2 p2.env.zd (KVs.later (ifs := ifs) (elt := elt) p.env p2 hs kv hq)
            exact ⟨g1, g2⟩
          · have pb := comp_back hno hin env p p2
            refine q _ H2 Z2 pb ⟨D0, rfl, p.none env hD, nz, fun w => ?_, t⟩
            obtain ⟨_, o, ho, _⟩ := p.env.own w
            rw [hD] at ho; cases ho
theorem own_map {N : List Str} {own : List Nat} : (own.map fun i => ((N[i]?).getD ⟨#[]⟩, i)).map (·.2) = own := by
  rw [List.map_map]
  exact List.map_id _
theorem comp_sound {C : Cn} {N : List Str} {sc : Scope} {k : Nat} {W : WX} {X : Cx} {Γ : List SK} (hX : XOk C N sc k W X) {P : Ip} {as : CEs} {ks : List Kd} {es : List Expr} {ts : List TE} {tg : Tg} {ifs : CEs} {elt : CE} {own : List Nat} {kd : Kd}
    {e2 t2 it : Expr} {is : List Expr} {scope : Scope} {pos : Pos} (hP : P.Ok C) (hr : P.rcg sc t2 it = some es) (h1 : PEs X es ts) (h2 : noStar es = true) (hq : quietAll ks ifs elt own = true)
    (h : ∀ c H R, tEs C W Γ as ks c H R → tAll ts c H R) (hb : blkC N sc scope (own.map fun i => ((N[i]?).getD ⟨#[]⟩, i)) = true) (ht : ckTg N scope tg t2 = true) (hset : isSet it = false) (hk : kd.firm = true) (hown : tgS tg = own)
    (hno : ∀ i ∈ own, Γ[i]? ≠ some .ow) (hin : ∀ i ∈ own, i < Γ.length)
    (hi : ∀ (Y : Cx), XOk C N (relS scope sc) k W0 Y → PTs Y is (tTs C W0 (setAll Γ .fr own) ifs)) (he : ∀ (Y : Cx), XOk C N (relS scope sc) k W0 Y → PE Y e2 (tE C W0 (setAll Γ .fr own) elt kd)) :
    PE X (.ListComp e2 [⟨t2, it, is, 0⟩] scope pos) (tE C W Γ (.comp P as tg ifs elt own) .nw) ∧
    ∀ {i : Nat} {y : Str} {py spos : Pos}, X.N[i]? = some y → X.env.scope.names.lookup y = some .local → swapsWith (.ListComp e2 [⟨t2, it, is, 0⟩] scope pos) (some (.Name y py)) spos.line X.env = pure true →
      PS X (.Assign [.Name y py] (.ListComp e2 [⟨t2, it, is, 0⟩] scope pos) spos) (tAsg (tE C W Γ (.comp P as tg ifs elt own) .nw) (gName i)) := by
  have pi := hP hX hr h1 h2
  have bo : BlkOk X.N X.env.scope scope (own.map fun i => ((N[i]?).getD ⟨#[]⟩, i)) := by rw [← hX.N, ← hX.sc]; exact blkOk_by hb
  have hc := hX.cn
  subst hc
  have rd := comp_read (P := P) hq h hk hown hno hin
  refine ⟨PE.weak (pe_lc (wi := tIp (cn X) P (tAll ts)) (g := gT X.K tg) (tt := tTs (cn X) W0 (setAll Γ .fr own) ifs) (te := tE (cn X) W0 (setAll Γ .fr own) elt kd) hX.calm hX.nd pi bo
    (fun s H D cl fp => tg_sound (X := X.blk s H scope (compEnvC scope cl D X.env) fp) hX.N hX.nd hX.calm (blk_stores scope s H D cl fp) tg t2 ht) (fun s H D cl fp => hi _ (blk_ok hX scope s H D cl fp)) (fun s H D cl fp => he _ (blk_ok hX scope s H D cl fp)) (set_fold hset)) fun c H Q => ?_,
    fun {i y py spos} hy hyl hsw => PS.weak (ps_setLc (wi := tIp (cn X) P (tAll ts)) (g := gT X.K tg) (tt := tTs (cn X) W0 (setAll Γ .fr own) ifs) (te := tE (cn X) W0 (setAll Γ .fr own) elt kd) hX.calm hX.nd hy hyl hsw pi bo
    (fun s H D cl fp => tg_sound (X := X.blk s H scope (compEnvC scope cl D X.env) fp) hX.N hX.nd hX.calm (blk_stores scope s H D cl fp) tg t2 ht) (fun s H D cl fp => hi _ (blk_ok hX scope s H D cl fp)) (fun s H D cl fp => he _ (blk_ok hX scope s H D cl fp)) (set_fold hset)) fun D c H => ?_⟩
  · rw [own_map]
    exact rd c H Q
  · intro q
    show tLc _ _ _ _ ((own.map fun i => ((N[i]?).getD ⟨#[]⟩, i)).map (·.2)) c H _
    rw [own_map]
    exact rd c H _ q
end G
end
section
set_option maxRecDepth 10000
/-! pop; a walk over a dict. -/
namespace G
open PySem L2
section
variable {C : Cn} {N : List Str} {sc : Scope} {k : Nat} {W : WX} {X : Cx} {Γ : List SK}
theorem pop_last {K : PySem.W.Frag} {Z : Addr → Prop} {H : Hp} {xs : List D} {vs : List V} {x : D} (r : RpL K Z H xs vs) (h : xs.getLast? = some x) : ∃ v, vs[vs.length - 1]? = some v ∧ Rp K Z H x v := by
  rw [List.getLast?_eq_getElem?] at h
  obtain ⟨v, h1, h2⟩ := r.get h
  exact ⟨v, by rw [← r.len]; exact h1, h2⟩
theorem RpL.dropLast {K : PySem.W.Frag} {Z : Addr → Prop} {H : Hp} {ds : List D} {xs : List V} (h : RpL K Z H ds xs) : RpL K Z H ds.dropLast xs.dropLast := by
  rw [List.dropLast_eq_take, List.dropLast_eq_take, h.len]
  exact h.take _
theorem RpL.eraseIdx {K : PySem.W.Frag} {Z : Addr → Prop} {H : Hp} {ds : List D} {xs : List V} (i : Nat) (h : RpL K Z H ds xs) : RpL K Z H (ds.eraseIdx i) (xs.eraseIdx i) := by
  rw [List.eraseIdx_eq_take_drop_succ, List.eraseIdx_eq_take_drop_succ]
  exact (h.take _).append (h.drop _)
theorem isLst_of {d : D} (h : isLst d = true) : ∃ xs, d = .lst xs := by
  cases d <;> first | exact ⟨_, rfl⟩ | cases h
theorem Env.own_lst {K : PySem.W.Frag} {Z : Addr → Prop} {H : Hp} {s : Sg} {c : St} (e : Env K Z H Γ s c) {i : Nat} (hi : Γ[i]? = some .ow) {xs : List D} (hx : gt s i = .lst xs) : ∃ a vs, c[i]? = some (some (.ref a)) ∧ H a = some (.lst vs) ∧ RpL K Z H xs vs := by
  obtain ⟨a, e1, e2, e3⟩ := e.ow i hi
  rw [hx] at e3
  obtain ⟨vs, h1, h2⟩ := e3
  exact ⟨a, vs, e1, h1, h2⟩
theorem pop0_sound (hX : XOk C N sc k W X) {i : Nat} {x : Str} {p ap pos : Pos} (hv : (decide (N[i]? = some x) && visB sc x && plainName x) = true) (hl : (ap.endLine == pos.line) = true)
    (hi : Γ[i]? = some .ow) : PE X (.Call (.Attribute (.Name x p) "pop" ap) [] [] pos) (tE C W Γ (.pop i .nil) .fz) := by
  have pv := var_raw hX hv (pos := p)
  have hc := hX.cn
  subst hc
  refine PE.weak (pe_bm0 PySem.F.plainAttrs_list PySem.F.slot_list_pop PySem.F.type_list_pop mt_pop pv rfl hl) fun c H Q => ?_
  rintro ⟨Z, s, env, q⟩
  have ev : evE (.pop i .nil) s = if isLst (gt s i) = true then (match popAt (gt s i) [] with
    | some (x, y) => .ok x (s.set i y)
    | none => .stuck) else .stuck := rfl
  rw [ev] at q
  cases hL : isLst (gt s i) with
  | false => rw [hL, if_neg Bool.false_ne_true] at q; exact q.elim
  | true =>
    rw [hL, if_pos rfl] at q
    obtain ⟨xs, hx⟩ := isLst_of hL
    obtain ⟨a, vs, e1, e2, e3⟩ := env.own_lst hi hx
    rw [hx] at q
    cases hg : xs.getLast? with
    | none =>
      have : popAt (.lst xs) [] = none := by show (match xs.getLast? with | some x => some (x, D.lst xs.dropLast) | none => none) = none; rw [hg]
      rw [this] at q
      exact q.elim
    | some x0 =>
      have : popAt (.lst xs) [] = some (x0, .lst xs.dropLast) := by show (match xs.getLast? with | some x => some (x, D.lst xs.dropLast) | none => none) = _; rw [hg]
      rw [this] at q
      obtain ⟨v, h1, h2⟩ := pop_last e3 hg
      have m := env.monoW (o := .lst vs.dropLast) hi e1
      have pw := env.write hi e1 (d := .lst xs.dropLast) (o := .lst vs.dropLast) ⟨_, upd_same, RpL.mono m _ _ e3.dropLast⟩
      exact ⟨_, e1, .inl ⟨rfl, _, .of e2⟩, a, vs, v, rfl, rfl, e2, h1, q _ _ _ pw (Rp.mono m _ _ h2)⟩
theorem pop1_sound (hX : XOk C N sc k W X) {i : Nat} {a1 : CE} {e : Expr} {ts : List TE} {x : Str} {p ap pos : Pos} (hv : (decide (N[i]? = some x) && visB sc x && plainName x) = true) (hl : (ap.endLine == pos.line) = true)
    (hi : Γ[i]? = some .ow) (h1 : PEs X [e] ts) (h2 : noStar [e] = true) (h : ∀ c H R, tEs C W Γ (.cons a1 .nil) [.fz] c H R → tAll ts c H R) :
    PE X (.Call (.Attribute (.Name x p) "pop" ap) [e] [] pos) (tE C W Γ (.pop i (.cons a1 .nil)) .fz) := by
  have pv := var_raw hX hv (pos := p)
  have hs := star_no (es := []) (env := X.env) (noStar_cons h2).1
  have hc := hX.cn
  subst hc
  refine PE.weak (pe_bm PySem.F.plainAttrs_list PySem.F.slot_list_pop PySem.F.type_list_pop mt_popAt pv (h1.pa h2) rfl (by rw [hs]; rfl) hl hs rfl) fun c H Q => ?_
  rintro ⟨Z, s, env, q⟩
  have ev : evE (.pop i (.cons a1 .nil)) s = if isLst (gt s i) = true then (evEs (.cons a1 .nil) s).bind fun ds s1 => (match popAt (gt s1 i) ds with
    | some (x, y) => .ok x (s1.set i y)
    | none => .stuck) else .stuck := rfl
  rw [ev] at q
  cases hL : isLst (gt s i) with
  | false => rw [hL, if_neg Bool.false_ne_true] at q; exact q.elim
  | true =>
    rw [hL, if_pos rfl] at q
    obtain ⟨xs0, hx0⟩ := isLst_of hL
    obtain ⟨a, vs0, e1, e2, e3⟩ := env.own_lst hi hx0
    refine ⟨_, e1, .inl ⟨rfl, _, .of e2⟩, h c H _ ⟨Z, s, env, ?_⟩⟩
    cases e4 : evEs (.cons a1 .nil) s with
    | stuck => rw [e4] at q; exact q
    | exc x s1 => rw [e4] at q; exact q
    | ok ds s1 =>
      rw [e4, Out.bind_ok] at q
      rintro vs H1 Z1 p1 ⟨d, dr, v, vr, rfl, rfl, kv, rfl, rfl⟩ _
      cases d with
      | int n =>
        have hv : v = .int n := kv
        subst hv
        cases hg : gt s1 i with
        | lst xs =>
          rw [hg] at q
          obtain ⟨b, vs, f1, f2, f3⟩ := p1.env.own_lst hi hg
          rw [e1] at f1
          cases f1
          have hp : popAt (.lst xs) [.int n] = (if 0 ≤ n then (if n < 9223372036854775808 then (match xs[n.toNat]? with
            | some x => some (x, .lst (xs.eraseIdx n.toNat))
            | none => none) else none) else none) := rfl
          rw [hp] at q
          by_cases hn : 0 ≤ n
          · by_cases hn2 : n < 9223372036854775808
            · rw [if_pos hn, if_pos hn2] at q
              cases hx : xs[n.toNat]? with
              | none => rw [hx] at q; exact q.elim
              | some y =>
                rw [hx] at q
                dsimp only at q
                obtain ⟨w, g1, g2⟩ := f3.get hx
                have m := p1.env.monoW (o := .lst (vs.eraseIdx n.toNat)) hi e1
                have pw := p1.env.write hi e1 (d := .lst (xs.eraseIdx n.toNat)) (o := .lst (vs.eraseIdx n.toNat)) ⟨_, upd_same, RpL.mono m _ _ (f3.eraseIdx _)⟩
                have hlt : n.toNat < xs.length := (List.getElem?_eq_some_iff.mp hx).1
                refine ⟨a, vs, n, n.toNat, w, rfl, rfl, f2, by omega, hn2, ?_, g1, q _ _ _ (p1.trans env pw) (Rp.mono m _ _ g2)⟩
                rw [← f3.len]
                exact seqIndex_of hn (by omega)
            · rw [if_pos hn, if_neg hn2] at q; exact q.elim
          · rw [if_neg hn] at q; exact q.elim
        | _ => rw [hg] at q; exact q.elim
      | _ =>
        exfalso
        cases hg : gt s1 i <;> rw [hg] at q <;> exact q
end
end G
end
section
set_option maxRecDepth 10000
/-! A walk over a dict: it is locked meanwhile. -/
namespace G
open PySem L2
def isDict : HO → Bool
  | .dK _ => true
  | .dT _ => true
  | _ => false
section
variable {K : PySem.W.Frag} {Z Z1 : Addr → Prop} {H : Hp} {Γ : List SK} {s : Sg} {c : St} {d : Addr} {u : HO} {od : Obj}
theorem lock_mo (hd : H d = some u) (hu : isDict u = true) : Mo K Z H Z (upd H d (.frz od u)) where
  zz := fun _ h => h
  l := fun a xs _ h => by rw [upd_ne fun z => by rw [z, hd] at h; cases h; cases hu]; exact h
  k := fun a ks _ h => by
    by_cases ha : a = d
    · subst ha
      refine .inr ⟨od, ?_⟩
      rw [upd_same]
      rcases h with h | ⟨o, h⟩
      · rw [hd] at h; cases h; rfl
      · rw [hd] at h; cases h; cases hu
    · rcases h with h | ⟨o, h⟩
      · exact .inl (by rw [upd_ne ha]; exact h)
      · exact .inr ⟨o, by rw [upd_ne ha]; exact h⟩
  t := fun a ks _ h => by
    by_cases ha : a = d
    · subst ha
      refine .inr ⟨od, ?_⟩
      rw [upd_same]
      rcases h with h | ⟨o, h⟩
      · rw [hd] at h; cases h; rfl
      · rw [hd] at h; cases h; cases hu
    · rcases h with h | ⟨o, h⟩
      · exact .inl (by rw [upd_ne ha]; exact h)
      · exact .inr ⟨o, by rw [upd_ne ha]; exact h⟩
  p := fun a xs h => by rw [upd_ne fun z => by rw [z, hd] at h; cases h; cases hu]; exact h
  pf := fun a o xs h => by rw [upd_ne fun z => by rw [z, hd] at h; cases h; cases hu]; exact h
  q := fun a o xs h => by rw [upd_ne fun z => by rw [z, hd] at h; cases h; cases hu]; exact h
theorem unlock_mo (hd : H d = some (.frz od u)) (hu : isDict u = true) : Mo K Z H Z (upd H d u) where
  zz := fun _ h => h
  l := fun a xs _ h => by rw [upd_ne fun z => by rw [z, hd] at h; cases h]; exact h
  k := fun a ks _ h => by
    by_cases ha : a = d
    · subst ha
      refine .inl ?_
      rw [upd_same]
      rcases h with h | ⟨o, h⟩
      · rw [hd] at h; cases h
      · rw [hd] at h; cases h; rfl
    · rcases h with h | ⟨o, h⟩
      · exact .inl (by rw [upd_ne ha]; exact h)
      · exact .inr ⟨o, by rw [upd_ne ha]; exact h⟩
  t := fun a ks _ h => by
    by_cases ha : a = d
    · subst ha
      refine .inl ?_
      rw [upd_same]
      rcases h with h | ⟨o, h⟩
      · rw [hd] at h; cases h
      · rw [hd] at h; cases h; rfl
    · rcases h with h | ⟨o, h⟩
      · exact .inl (by rw [upd_ne ha]; exact h)
      · exact .inr ⟨o, by rw [upd_ne ha]; exact h⟩
  p := fun a xs h => by rw [upd_ne fun z => by rw [z, hd] at h; cases h]; exact h
  pf := fun a o xs h => by rw [upd_ne fun z => by rw [z, hd] at h; cases h; cases hu]; exact h
  q := fun a o xs h => by rw [upd_ne fun z => by rw [z, hd] at h; cases h; cases hu]; exact h
theorem Env.lock (e : Env K Z H Γ s c) (zd : Z d) (hd : H d = some u) (hu : isDict u = true) : Env K Z (upd H d (.frz od u)) Γ s c := by
  refine e.mo (lock_mo hd hu) (fun a h => ?_) fun a w => ?_
  · by_cases ha : a = d
    · rw [ha, upd_same]; exact fun z => nomatch z
    · rw [upd_ne ha]; exact e.zd a h
  · have nz := (e.own w).1
    exact ⟨upd_ne fun z => nz (by rw [z]; exact zd), nz⟩
/-- behind the walk -/
theorem PostE.unlock {s2 : Sg} {Z2 : Addr → Prop} {H2 : Hp} (e : Env K Z H Γ s c) (zd : Z d) (hd : H d = some u) (hu : isDict u = true) (p : PostE K Z (upd H d (.frz od u)) Γ c s2 Z2 H2) :
    H2 d = some (.frz od u) ∧ PostE K Z H Γ c s2 Z2 (upd H2 d u) := by
  have nd : ¬ Own Γ c d := fun w => (e.own w).1 zd
  have h2 : H2 d = some (.frz od u) := p.pr d _ upd_same nd
  refine ⟨h2, p.zz, fun a h => ?_, fun a o h w => ?_, p.env.mo (unlock_mo h2 hu) (fun a h => ?_) fun a w => ?_⟩
  · rcases p.zn a h with h | h
    · exact .inl h
    · refine .inr ?_
      rw [← h, upd_ne]
      intro z
      rw [z, upd_same] at h
      cases h
  · by_cases ha : a = d
    · subst ha
      rw [hd] at h; cases h
      exact upd_same
    · rw [upd_ne ha]
      exact p.pr a o (by rw [upd_ne ha]; exact h) w
  · by_cases ha : a = d
    · rw [ha, upd_same]; exact fun z => nomatch z
    · rw [upd_ne ha]; exact p.env.zd a h
  · exact ⟨upd_ne fun z => nd (by rw [← z]; exact w), (p.env.own w).1⟩
end
theorem keyL (k : Ky) : kV k = (match k with | .inl i => V.int i | .inr x => V.str x) := by cases k <;> rfl
theorem RpL.keys {K : PySem.W.Frag} {Z : Addr → Prop} {H : Hp} : ∀ ks : List Ky, RpL K Z H (ks.map fun k => match k with | .inl i => D.int i | .inr x => .str x) (ks.map kV)
  | [] => rfl
  | k :: ks => ⟨kV k, ks.map kV, rfl, by cases k <;> rfl, RpL.keys ks⟩
theorem RpK.len {K : PySem.W.Frag} {Z : Addr → Prop} {H : Hp} : ∀ {ds : List (Ky × D)} {ks : List (Ky × V)}, RpK K Z H ds ks → ds.map (·.1) = ks.map (·.1)
  | [], _, h => by rw [show _ = [] from h]; rfl
  | (k, d) :: ds, _, ⟨v, r, e, _, h⟩ => by rw [e, List.map_cons, List.map_cons, RpK.len h]
theorem RpT.len {K : PySem.W.Frag} {Z : Addr → Prop} {H : Hp} : ∀ {ds : List (List Ky × D)} {ks : List (List Ky × V)}, RpT K Z H ds ks → ds.map (·.1) = ks.map (·.1)
  | [], _, h => by rw [show _ = [] from h]; rfl
  | (k, d) :: ds, _, ⟨v, r, e, _, h⟩ => by rw [e, List.map_cons, List.map_cons, RpT.len h]
/-- the keys' walk, the dict locked -/
theorem keys_good {K : PySem.W.Frag} {kvs : List (Ky × V)} {items : List D} {d : Addr} {o : Obj} (hi : items = kvs.map fun p => match p.1 with | .inl i => D.int i | .inr x => .str x) {Z : Addr → Prop} {H : Hp} (hd : H d = some (.frz o (.dK kvs))) :
    (∀ (i : Nat) (x : D), items[i]? = some x → (Itk d o kvs).go i H ∧ ∀ v H1, (Itk d o kvs).yld i H v H1 → (∀ a o, H a = some o → H1 a = some o) ∧ Rp K Z H1 x v) ∧ ∀ i, items.length ≤ i → (Itk d o kvs).stop i H := by
  subst hi
  refine ⟨fun i x hx => ?_, fun i hle => ⟨hd, by rw [List.length_map] at hle; exact hle⟩⟩
  rw [List.getElem?_map] at hx
  cases e : kvs[i]? with
  | none => rw [e] at hx; cases hx
  | some p =>
    rw [e] at hx
    obtain ⟨k, w⟩ := p
    refine ⟨⟨hd, (List.getElem?_eq_some_iff.mp e).1⟩, ?_⟩
    rintro v H1 ⟨rfl, k', w', e', rfl⟩
    rw [e] at e'
    cases e'
    refine ⟨fun _ _ h => h, ?_⟩
    cases hx
    cases k <;> rfl
theorem keysT_good {K : PySem.W.Frag} {kvs : List (List Ky × V)} {items : List D} {d : Addr} {o : Obj} (hi : items = kvs.map fun p => .wtp (p.1.map fun k => match k with | .inl i => D.int i | .inr x => .str x)) {Z : Addr → Prop} {H : Hp} (hd : H d = some (.frz o (.dT kvs))) :
    (∀ (i : Nat) (x : D), items[i]? = some x → (Itkt d o kvs).go i H ∧ ∀ v H1, (Itkt d o kvs).yld i H v H1 → (∀ a o, H a = some o → H1 a = some o) ∧ Rp K Z H1 x v) ∧ ∀ i, items.length ≤ i → (Itkt d o kvs).stop i H := by
  subst hi
  refine ⟨fun i x hx => ?_, fun i hle => ⟨hd, by rw [List.length_map] at hle; exact hle⟩⟩
  rw [List.getElem?_map] at hx
  cases e : kvs[i]? with
  | none => rw [e] at hx; cases hx
  | some p =>
    rw [e] at hx
    obtain ⟨k, w⟩ := p
    refine ⟨⟨hd, (List.getElem?_eq_some_iff.mp e).1⟩, ?_⟩
    rintro v H1 ⟨rfl, k', w', q, e', rfl, hq⟩
    rw [e] at e'
    cases e'
    refine ⟨fun _ _ h => h, ?_⟩
    cases hx
    exact ⟨q, _, rfl, hq, RpL.keys k⟩
theorem PE.or {X : Cx} {e : Expr} {t u : TE} (h : PE X e t) (h' : PE X e u) : PE X e (fun σ H Q => t σ H Q ∨ u σ H Q) := ⟨fun pins s σ H Q I q => q.elim (h.run pins s σ H Q I) (h'.run pins s σ H Q I)⟩
/-- a walk's things: a dict that is locked, its items -/
theorem dict_here {K : PySem.W.Frag} {Z : Addr → Prop} {H : Hp} {g : D} {v : V} {items : List D} (h : keysOf g = some items) (r : Rp K Z H g v) : ∃ d u, v = .ref d ∧ Z d ∧ isDict u = true ∧ Rd H d u ∧
    ((∃ kvs, u = .dK kvs ∧ items = kvs.map fun p => match p.1 with | .inl i => D.int i | .inr x => .str x) ∨ ∃ kvs, u = .dT kvs ∧ items = kvs.map fun p => .wtp (p.1.map fun k => match k with | .inl i => D.int i | .inr x => .str x)) := by
  cases g with
  | dk kvs =>
    obtain ⟨a, ks, e, z, h1, h2⟩ := r
    refine ⟨a, _, e, z, rfl, h1, .inl ⟨ks, rfl, ?_⟩⟩
    cases h
    have := congrArg (List.map fun k : Ky => match k with | .inl i => D.int i | .inr x => .str x) h2.len
    rw [List.map_map, List.map_map] at this
    exact this
  | dt kvs =>
    obtain ⟨a, ks, e, z, h1, h2⟩ := r
    refine ⟨a, _, e, z, rfl, h1, .inr ⟨ks, rfl, ?_⟩⟩
    cases h
    have := congrArg (List.map fun k : List Ky => D.wtp (k.map fun k => match k with | .inl i => D.int i | .inr x => .str x)) h2.len
    rw [List.map_map, List.map_map] at this
    exact this
  | _ => cases h
theorem PS.or {X : Cx} {e : Stmt} {t u : TS} (h : PS X e t) (h' : PS X e u) : PS X e (fun D σ H => t D σ H ∨ u D σ H) := ⟨fun pins s σ H D I q => q.elim (h.run pins s σ H D I) (h'.run pins s σ H D I)⟩
theorem keys_read {C : Cn} {W : WX} {Γ : List SK} {i : Nat} {tg : Tg} {ifs : CEs} {elt : CE} {own : List Nat} {kd : Kd} (hfr : Γ[i]? = some .fr) (hk : kd.firm = true) (hown : tgS tg = own)
    (hno : ∀ i ∈ own, Γ[i]? ≠ some .ow) (hin : ∀ i ∈ own, i < Γ.length) :
    ∀ c H Q, tE C W Γ (.keys i tg ifs elt own) .nw c H Q → tLc (iKeys (tVar i)) (gT C.K tg) (tTs C W0 (setAll Γ .fr own) ifs) (tE C W0 (setAll Γ .fr own) elt kd) own c H Q ∨
      tLockE (tLc (iKeys (tVar i)) (gT C.K tg) (tTs C W0 (setAll Γ .fr own) ifs) (tE C W0 (setAll Γ .fr own) elt kd) own) c H Q := by
  rintro c H Q ⟨Z, s, env, q⟩
  have ev : evE (.keys i tg ifs elt own) s = match keysOf (gt s i) with
    | none => .stuck
    | some items => ((compL tg (fun s2 => evTs ifs s2) (fun s2 => evE elt s2) own items s []).calm).bind fun acc s2 => .ok (.lst acc) (rest s s2 own) := rfl
  rw [ev] at q
  obtain ⟨v, h1, h2⟩ := env.fr i hfr
  cases e3 : keysOf (gt s i) with
  | none => rw [e3] at q; exact q.elim
  | some items =>
    rw [e3] at q
    dsimp only at q
    cases e4 : compL tg (fun s2 => evTs ifs s2) (fun s2 => evE elt s2) own items s [] with
    | stuck => rw [e4] at q; exact q.elim
    | exc x s2 => rw [e4] at q; exact q.elim
    | ok acc sF =>
      rw [e4] at q
      obtain ⟨d, u, rfl, zd, hu, hr, hk2⟩ := dict_here e3 h2
      -- the turns, the dict locked as o
      have walk : ∀ (HL : Hp) (o : Obj) (Q' : VK), Env C.K Z HL Γ s c → HL d = some (.frz o u) → (∀ (Z2 : Addr → Prop) (H2 : Hp) (D0 : Addr), HL D0 = none → PostE C.K Z HL Γ c (rest s sF own) Z2 H2 → ¬ Z2 D0 → Top C.K Z2 H2 D0 (.lst acc) → Q' (.ref D0) H2) →
          tLc (iKeys (tVar i)) (gT C.K tg) (tTs C W0 (setAll Γ .fr own) ifs) (tE C W0 (setAll Γ .fr own) elt kd) own c HL Q' := by
        intro HL o Q' eL hL fin
        have eB := eL.blk (own := own)
        have hfin : ∀ (D0 : Addr) (hD : HL D0 = none) (Z2 : Addr → Prop) (H2 : Hp), PostE C.K Z HL (setAll Γ .un own) (L2.wipe c own) sF Z2 H2 → ¬ Z2 D0 → Top C.K Z2 H2 D0 (.lst acc) → Q' (.ref D0) H2 := fun D0 hD Z2 H2 p2 nz t =>
          fin Z2 H2 D0 hD (comp_back hno hin eL (.refl eL) p2) nz t
        have stays : ∀ (Z2 : Addr → Prop) (H2 : Hp) (s2 : Sg), PostE C.K Z HL (setAll Γ .un own) (L2.wipe c own) s2 Z2 H2 → H2 d = some (.frz o u) := fun Z2 H2 s2 p2 => p2.pr d _ hL fun w => by
          obtain ⟨_, o', ho, to⟩ := eB.own w
          rw [hL] at ho; cases ho; cases to
        refine ⟨_, h1, d, o, rfl, ?_⟩
        rcases hk2 with ⟨kvs, rfl, hit⟩ | ⟨kvs, rfl, hit⟩
        · refine .inl ⟨kvs, hL, fun D0 hD => turns hk hown hno hin eL e4 (fun Z2 H2 s2 p2 _ => keys_good hit (stays Z2 H2 s2 p2)) hD (hfin D0 hD)⟩
        · refine .inr ⟨kvs, hL, fun D0 hD => turns hk hown hno hin eL e4 (fun Z2 H2 s2 p2 _ => keysT_good hit (stays Z2 H2 s2 p2)) hD (hfin D0 hD)⟩
      rcases hr with hr | ⟨o, hr⟩
      · refine .inr ⟨d, u, hr, (by cases u <;> first | trivial | cases hu), fun od => walk _ od _ (env.lock zd hr hu) upd_same fun Z2 H2 D0 hD p2 nz t => ?_⟩
        obtain ⟨g1, g2⟩ := PostE.unlock env zd hr hu p2
        have hne : D0 ≠ d := fun z => by rw [z, upd_same] at hD; cases hD
        rw [upd_ne hne] at hD
        refine ⟨g1, q _ _ Z2 g2 ⟨D0, rfl, hD, nz, fun w => ?_, t.mo (unlock_mo g1 hu) (upd_ne hne)⟩⟩
        obtain ⟨_, o, ho, _⟩ := env.own w
        rw [hD] at ho; cases ho
      · refine .inl (walk H o Q env hr fun Z2 H2 D0 hD p2 nz t => q _ _ Z2 p2 ⟨D0, rfl, hD, nz, fun w => ?_, t⟩)
        obtain ⟨_, o, ho, _⟩ := env.own w
        rw [hD] at ho; cases ho
theorem keys_sound {C : Cn} {N : List Str} {sc : Scope} {k : Nat} {W : WX} {X : Cx} {Γ : List SK} (hX : XOk C N sc k W X) {i : Nat} {tg : Tg} {ifs : CEs} {elt : CE} {own : List Nat} {kd : Kd}
    {e2 t2 : Expr} {is : List Expr} {scope : Scope} {x : Str} {px pos : Pos} (hv : (decide (N[i]? = some x) && visB sc x && plainName x) = true) (hfr : Γ[i]? = some .fr)
    (hb : blkC N sc scope (own.map fun i => ((N[i]?).getD ⟨#[]⟩, i)) = true) (ht : ckTg N scope tg t2 = true) (hk : kd.firm = true) (hown : tgS tg = own)
    (hno : ∀ i ∈ own, Γ[i]? ≠ some .ow) (hin : ∀ i ∈ own, i < Γ.length)
    (hi : ∀ (Y : Cx), XOk C N (relS scope sc) k W0 Y → PTs Y is (tTs C W0 (setAll Γ .fr own) ifs)) (he : ∀ (Y : Cx), XOk C N (relS scope sc) k W0 Y → PE Y e2 (tE C W0 (setAll Γ .fr own) elt kd)) :
    PE X (.ListComp e2 [⟨t2, .Name x px, is, 0⟩] scope pos) (tE C W Γ (.keys i tg ifs elt own) .nw) ∧
    ∀ {j : Nat} {y : Str} {py spos : Pos}, X.N[j]? = some y → X.env.scope.names.lookup y = some .local → swapsWith (.ListComp e2 [⟨t2, .Name x px, is, 0⟩] scope pos) (some (.Name y py)) spos.line X.env = pure true →
      PS X (.Assign [.Name y py] (.ListComp e2 [⟨t2, .Name x px, is, 0⟩] scope pos) spos) (tAsg (tE C W Γ (.keys i tg ifs elt own) .nw) (gName j)) := by
  have pi : PI X t2 (.Name x px) (iKeys (tVar i)) := pi_keys (var_raw hX hv)
  have bo : BlkOk X.N X.env.scope scope (own.map fun i => ((N[i]?).getD ⟨#[]⟩, i)) := by rw [← hX.N, ← hX.sc]; exact blkOk_by hb
  have hc := hX.cn
  subst hc
  have rd := keys_read (C := cn X) (W := W) (ifs := ifs) (elt := elt) hfr hk hown hno hin
  refine ⟨?_, fun {j y py spos} hy hyl hsw => ?_⟩
  · have base := pe_lc (pos := pos) (wi := iKeys (tVar i)) (g := gT X.K tg) (tt := tTs (cn X) W0 (setAll Γ .fr own) ifs) (te := tE (cn X) W0 (setAll Γ .fr own) elt kd) hX.calm hX.nd pi bo
      (fun s H D cl fp => tg_sound (X := X.blk s H scope (compEnvC scope cl D X.env) fp) hX.N hX.nd hX.calm (blk_stores scope s H D cl fp) tg t2 ht) (fun s H D cl fp => hi _ (blk_ok hX scope s H D cl fp)) (fun s H D cl fp => he _ (blk_ok hX scope s H D cl fp)) (by intro _; rfl)
    rw [own_map] at base
    exact PE.weak (PE.or base (pe_lock base)) rd
  · have base := ps_setLc (wi := iKeys (tVar i)) (g := gT X.K tg) (tt := tTs (cn X) W0 (setAll Γ .fr own) ifs) (te := tE (cn X) W0 (setAll Γ .fr own) elt kd) hX.calm hX.nd hy hyl hsw pi bo
      (fun s H D cl fp => tg_sound (X := X.blk s H scope (compEnvC scope cl D X.env) fp) hX.N hX.nd hX.calm (blk_stores scope s H D cl fp) tg t2 ht) (fun s H D cl fp => hi _ (blk_ok hX scope s H D cl fp)) (fun s H D cl fp => he _ (blk_ok hX scope s H D cl fp)) (by intro _; rfl)
    rw [own_map] at base
    refine PS.weak (PS.or base (ps_lock base)) fun D c H q => ?_
    rcases rd c H _ q with q | q
    · exact .inl q
    · exact .inr q
end G
end
section
set_option maxRecDepth 10000
/-! Methods; chains of comparisons. -/
namespace G
open PySem L2
def tMt (C : Cn) (M : Mt) (t : TE) (ts : TA) : TE := fun c H Q => t c H fun x H1 => (∃ Z d, (∀ a, Z a → H1 a ≠ none) ∧ Vw C.K Z H1 d x ∧ M.recv d = true) ∧ ts c H1 fun vs H2 =>
  ∃ Z d ds r, (∀ a, Z a → H2 a ≠ none) ∧ Vw C.K Z H2 d x ∧ Args C.K Z H2 M.esc 0 ds vs ∧ M.sem d ds = some r ∧ ∀ v H3 Z3, PRes C.K M.nw Z H2 r v Z3 H3 → Q v H3
structure Mt.Ok (C : Cn) (M : Mt) : Prop where
  pe : ∀ {N : List Str} {sc : Scope} {k : Nat} {W : WX} {X : Cx}, XOk C N sc k W X → ∀ {e o : Expr} {es : List Expr} {t : TE} {ts : List TE}, M.rcg sc e = some (o, es) → PE X o t → PEs X es ts → noStar es = true → PE X e (tMt C M t (tAll ts))
  nc : ∀ {sc : Scope} {e o : Expr} {es : List Expr}, M.rcg sc e = some (o, es) → isComp e = false
section
variable {C : Cn} {N : List Str} {sc : Scope} {k : Nat} {W : WX} {X : Cx} {Γ : List SK}
theorem meth_read {M : Mt} {o : CE} {as : CEs} {k0 : Kd} {ks : List Kd} {ts : List TE} (hq : ∀ (i : Nat) (s s1 : Sg), k0 = .bo i → ∀ ds, evEs as s = .ok ds s1 → gt s1 i = gt s i) (he : escOk M.esc 0 ks = true)
    (h : ∀ c H R, tEs C W Γ as ks c H R → tAll ts c H R) : ∀ c H Q, tE C W Γ (.meth M o as) (if M.nw = true then .nw else .fz) c H Q → tMt C M (tE C W Γ o k0) (tAll ts) c H Q := by
  rintro c H Q ⟨Z, s, env, q⟩
  refine ⟨Z, s, env, ?_⟩
  have ev : evE (.meth M o as) s = (evE o s).bind fun d s1 => if M.recv d = true then (evEs as s1).bind fun ds s2 => optD (M.sem d ds) s2 else .stuck := rfl
  rw [ev] at q
  cases e1 : evE o s with
  | stuck => rw [e1] at q; exact q
  | exc x s1 => rw [e1] at q; exact q
  | ok d s1 =>
    rw [e1, Out.bind_ok] at q
    intro v H1 Z1 p kv
    by_cases hr : M.recv d = true
    · rw [if_pos hr] at q
      refine ⟨⟨Z1, d, p.env.zd, kv.vw p.env, hr⟩, h c H1 _ ⟨Z1, s1, p.env, ?_⟩⟩
      cases e2 : evEs as s1 with
      | stuck => rw [e2] at q; exact q
      | exc x s2 => rw [e2] at q; exact fun H2 Z2 p2 => q H2 Z2 (p.trans env p2)
      | ok ds s2 =>
        rw [e2, Out.bind_ok] at q
        intro vs H2 Z2 p2 kvs nd
        obtain ⟨Z3, z1, z2, z3, z4, ar⟩ := KVs.args M.esc (j := 0) p2.env kvs he
        have kv2 := (kv.wait p.env p2 fun i hi => hq i s1 s2 hi ds e2).vw p2.env
        cases e3 : M.sem d ds with
        | none => rw [e3] at q; exact q.elim
        | some r =>
          rw [e3] at q
          refine ⟨Z3, d, ds, r, z3, Vw.mono ⟨z1, fun _ _ h _ => h⟩ (fun _ _ h => h) kv2, ar, e3, fun v H3 Z4 pr => ?_⟩
          obtain ⟨g1, g2⟩ := pr.post env (p.trans env p2) z1 (fun a h => (z2 a h).imp id fun h => p.none env h) z3 z4
          exact q v H3 Z4 g1 g2
    · rw [if_neg hr] at q; exact q.elim
/-! ### chains -/
def rOrd (l : Bool) : R2 := fun x y H Q => (∃ i j, x = .int i ∧ y = .int j ∧ Q (.bl (if l = true then decide (i ≤ j) else decide (i < j))) H) ∨ ∃ i j : Str, x = .str i ∧ y = .str j ∧ Q (.bl (if l = true then !decide (j.cps.toList < i.cps.toList) else decide (i.cps.toList < j.cps.toList))) H
def ordC (l : Bool) : CmpOp := if l = true then .LtE else .Lt
theorem ordOp_eq {l : Bool} {o : CmpOp} (h : ordOp l o = true) : o = ordC l := by
  cases l <;> cases o <;> first | rfl | cases h
theorem or_ord {X : Cx} : ∀ l : Bool, OpR X (compareOp (ordC l)) (rOrd l)
  | true => fun pins s σ H x y v u Q I rx ry q => q.elim (op_le pins s σ H x y v u Q I rx ry) (op_le_str pins s σ H x y v u Q I rx ry)
  | false => fun pins s σ H x y v u Q I rx ry q => q.elim (op_lt pins s σ H x y v u Q I rx ry) (op_lt_str pins s σ H x y v u Q I rx ry)
theorem ord_read {K : PySem.W.Frag} {Z : Addr → Prop} {H : Hp} {l t : Bool} {d e : D} {x y : V} {Q : VK} (h : ordB l d e = some t) (h1 : Vw K Z H d x) (h2 : Vw K Z H e y) (q : Q (.bl t) H) : rOrd l x y H Q := by
  cases d with
  | int i =>
    cases e with
    | int j =>
      refine .inl ⟨i, j, h1.int, h2.int, ?_⟩
      cases l with
      | true => cases h; exact q
      | false => cases h; exact q
    | _ => cases l <;> cases h
  | str i =>
    cases e with
    | str j =>
      refine .inr ⟨i, j, h1.str, h2.str, ?_⟩
      cases l with
      | true => cases h; exact q
      | false => cases h; exact q
    | _ => cases l <;> cases h
  | _ => cases l <;> cases h
theorem ord_marks {l2 : Bool} {o1 : CmpOp} {eb ec : Expr} : lastMarks [o1, ordC l2] [eb, ec] = false := by
  show behindInMarks (ordC l2) ec = false
  cases l2 <;> exact nomark _
theorem chain_sound (hX : XOk C N sc k W X) {l1 l2 : Bool} {a b c0 : CE} {ea eb ec : Expr} {kd : Kd} {pos : Pos} (ha : PE X ea (tE C W Γ a .fz)) (hb : PE X eb (tE C W Γ b .fz)) (hc : PE X ec (tE C W Γ c0 kd)) :
    PE X (.Compare ea [ordC l1, ordC l2] [eb, ec] pos) (tE C W Γ (.chain l1 l2 a b c0) .fz) ∧ PT X (.Compare ea [ordC l1, ordC l2] [eb, ec] pos) (tT C W Γ (.chain l1 l2 a b c0)) := by
  have hcn := hX.cn
  subst hcn
  constructor
  · refine PE.weak (pe_chain (or_ord l1) (or_ord l2) ha hb hc ord_marks) fun c H Q => ?_
    rintro ⟨Z, s, env, q⟩
    refine ⟨Z, s, env, ?_⟩
    have ev : evE (.chain l1 l2 a b c0) s = (evE a s).bind fun x s1 => (evE b s1).bind fun y s2 => (optB (ordB l1 x y) s2).bind fun t s3 => if t = true then ((evE c0 s3).bind fun z s4 => (optB (ordB l2 y z) s4).bind fun u s5 => .ok (.bl u) s5) else .ok (.bl false) s3 := rfl
    rw [ev] at q
    cases e1 : evE a s with
    | stuck => rw [e1] at q; exact q
    | exc x s1 => rw [e1] at q; exact q
    | ok x s1 =>
      rw [e1, Out.bind_ok] at q
      intro v H1 Z1 p1 kv1
      refine ⟨Z1, s1, p1.env, ?_⟩
      cases e2 : evE b s1 with
      | stuck => rw [e2] at q; exact q
      | exc x s2 => rw [e2] at q; exact fun H2 Z2 p2 => q H2 Z2 (p1.trans env p2)
      | ok y s2 =>
        rw [e2, Out.bind_ok] at q
        intro w H2 Z2 p2 kv2
        have p12 := p1.trans env p2
        have rx : Vw _ Z2 H2 x v := .inl (Rp.mono (p2.mono p1.env) _ _ kv1)
        have ry : Vw _ Z2 H2 y w := .inl kv2
        cases e3 : ordB l1 x y with
        | none => rw [e3] at q; exact q.elim
        | some t =>
          rw [e3, optB_some, Out.bind_ok] at q
          refine ord_read e3 rx ry ⟨t, rfl, ?_⟩
          cases t with
          | false =>
            rw [if_neg Bool.false_ne_true]
            rw [if_neg Bool.false_ne_true] at q
            exact q _ H2 Z2 p12 rfl
          | true =>
            rw [if_pos rfl]
            rw [if_pos rfl] at q
            refine ⟨Z2, s2, p12.env, ?_⟩
            cases e4 : evE c0 s2 with
            | stuck => rw [e4] at q; exact q
            | exc x s3 => rw [e4] at q; exact fun H3 Z3 p3 => q H3 Z3 (p12.trans env p3)
            | ok z s3 =>
              rw [e4, Out.bind_ok] at q
              intro u H3 Z3 p3 kv3
              cases e5 : ordB l2 y z with
              | none => rw [e5] at q; exact q.elim
              | some t2 =>
                rw [e5] at q
                exact ord_read e5 (.inl (Rp.mono (p3.mono p12.env) _ _ kv2)) (kv3.vw p3.env) (q _ H3 Z3 (p12.trans env p3) rfl)
  · refine PT.weak (pt_chain (or_ord l1) (or_ord l2) ha hb hc ord_marks) fun c H Q => ?_
    rintro ⟨Z, s, env, q⟩
    refine ⟨Z, s, env, ?_⟩
    have ev : evT (.chain l1 l2 a b c0) s = (evE a s).bind fun x s1 => (evE b s1).bind fun y s2 => (optB (ordB l1 x y) s2).bind fun t s3 => if t = true then ((evE c0 s3).bind fun z s4 => optB (ordB l2 y z) s4) else .ok false s3 := rfl
    rw [ev] at q
    cases e1 : evE a s with
    | stuck => rw [e1] at q; exact q
    | exc x s1 => rw [e1] at q; exact q
    | ok x s1 =>
      rw [e1, Out.bind_ok] at q
      intro v H1 Z1 p1 kv1
      refine ⟨Z1, s1, p1.env, ?_⟩
      cases e2 : evE b s1 with
      | stuck => rw [e2] at q; exact q
      | exc x s2 => rw [e2] at q; exact fun H2 Z2 p2 => q H2 Z2 (p1.trans env p2)
      | ok y s2 =>
        rw [e2, Out.bind_ok] at q
        intro w H2 Z2 p2 kv2
        have p12 := p1.trans env p2
        have rx : Vw _ Z2 H2 x v := .inl (Rp.mono (p2.mono p1.env) _ _ kv1)
        have ry : Vw _ Z2 H2 y w := .inl kv2
        cases e3 : ordB l1 x y with
        | none => rw [e3] at q; exact q.elim
        | some t =>
          rw [e3, optB_some, Out.bind_ok] at q
          refine ord_read e3 rx ry ⟨t, rfl, ?_⟩
          cases t with
          | false =>
            rw [if_neg Bool.false_ne_true]
            rw [if_neg Bool.false_ne_true] at q
            exact ⟨false, rfl, q H2 Z2 p12⟩
          | true =>
            rw [if_pos rfl]
            rw [if_pos rfl] at q
            refine ⟨Z2, s2, p12.env, ?_⟩
            cases e4 : evE c0 s2 with
            | stuck => rw [e4] at q; exact q
            | exc x s3 => rw [e4] at q; exact fun H3 Z3 p3 => q H3 Z3 (p12.trans env p3)
            | ok z s3 =>
              rw [e4, Out.bind_ok] at q
              intro u H3 Z3 p3 kv3
              cases e5 : ordB l2 y z with
              | none => rw [e5] at q; exact q.elim
              | some t2 =>
                rw [e5] at q
                exact ord_read e5 (.inl (Rp.mono (p3.mono p12.env) _ _ kv2)) (kv3.vw p3.env) ⟨t2, rfl, q H3 Z3 (p12.trans env p3)⟩
end
end G
end
section
set_option maxRecDepth 10000
/-! Every expression. -/
namespace G
open PySem L2
mutual
/-- what a term leans on: strict things, walked things, defs -/
def OkE (C : Cn) (k : Nat) : CE → Prop
  | .var _ => True
  | .pr P as => P.Ok C ∧ OkEs C k as
  | .bool _ as => OkEs C k as
  | .not a => OkE C k a
  | .ife c a b => OkE C k c ∧ OkE C k a ∧ OkE C k b
  | .call f as => FnGood C k f ∧ OkAs C k as
  | .pop _ as => OkEs C k as
  | .comp P as _ ifs elt _ => P.Ok C ∧ OkEs C k as ∧ OkEs C k ifs ∧ OkE C k elt
  | .keys _ _ ifs elt _ => OkEs C k ifs ∧ OkE C k elt
  | .meth M o as => M.Ok C ∧ OkE C k o ∧ OkEs C k as
  | .chain _ _ a b c => OkE C k a ∧ OkE C k b ∧ OkE C k c
def OkEs (C : Cn) (k : Nat) : CEs → Prop
  | .nil => True
  | .cons c cs => OkE C k c ∧ OkEs C k cs
def OkAs (C : Cn) (k : Nat) : CAs → Prop
  | .nil => True
  | .val c cs => OkE C k c ∧ OkAs C k cs
  | .lent _ cs => OkAs C k cs
end
theorem quiet_tc {kd : Kd} {cs : CEs} (h : quiet kd cs = true) : ∀ (i : Nat) (s s1 : Sg), kd = .bo i → ∀ ds, evEs cs s = .ok ds s1 → gt s1 i = gt s i := by
  rintro i s s1 rfl ds e
  have h : (!tcEs i cs) = true := h
  exact evEs_ne cs s ds s1 e (by simpa using h)
/-- arguments of a call, in a row -/
theorem aval_sound {C : Cn} {W : WX} {Γ : List SK} {a : CE} {as : CAs} {kd : Kd} {t : TE} {ts : List TE} (hk : kd.firm = true)
    (h1 : ∀ c H Q, tE C W Γ a kd c H Q → t c H Q) (h2 : ∀ c H R, tAs C W Γ as c H R → tAll ts c H R) :
    ∀ c H R, tAs C W Γ (.val a as) c H R → tAll (t :: ts) c H R := by
  rintro c H R ⟨Z, s, env, q⟩
  refine h1 c H _ ⟨Z, s, env, ?_⟩
  have ev : evAs (.val a as) s = (evE a s).bind fun d s1 => (evAs as s1).bind fun ds s2 => .ok (d :: ds) s2 := rfl
  rw [ev] at q
  cases e1 : evE a s with
  | stuck => rw [e1] at q; exact q
  | exc x s1 => rw [e1] at q; exact q
  | ok d s1 =>
    rw [e1, Out.bind_ok] at q
    intro v H1 Z1 p kv
    refine h2 c H1 _ ⟨Z1, s1, p.env, ?_⟩
    cases e2 : evAs as s1 with
    | stuck => rw [e2] at q; exact q
    | exc x s2 =>
      rw [e2] at q
      exact fun H2 Z2 p2 => q H2 Z2 (p.trans env p2)
    | ok ds s2 =>
      rw [e2] at q
      intro vs H2 Z2 p2 kvs
      have kw := kv.wait p.env p2 (fun i hi => by rw [hi] at hk; cases hk)
      exact q _ H2 Z2 (p.trans env p2) ⟨d, ds, v, vs, kd, rfl, rfl, hk, kw, older env p kvs⟩
where older {C : Cn} {Γ : List SK} {c : St} {H H1 H2 : Hp} {Z Z1 Z2 : Addr → Prop} {s s1 s2 : Sg} (env : Env C.K Z H Γ s c) (p : PostE C.K Z H Γ c s1 Z1 H1) : ∀ {as : CAs} {ds : List D} {vs : List V}, AKV C.K H1 Γ c s2 Z2 H2 as ds vs → AKV C.K H Γ c s2 Z2 H2 as ds vs
  | .nil, _, _, h => h
  | .val _ r, _, _, ⟨d, dr, v, vr, k, e1, e2, hk, h1, h2⟩ => ⟨d, dr, v, vr, k, e1, e2, hk, h1.older env p, older env p h2⟩
  | .lent i r, _, _, ⟨v, vr, e2, h1, h3, h2⟩ => ⟨v, vr, e2, h1, h3, older env p h2⟩
theorem alent_sound {C : Cn} {W : WX} {Γ : List SK} {i : Nat} {as : CAs} {ts : List TE} (hi : Γ[i]? = some .ow) (h2 : ∀ c H R, tAs C W Γ as c H R → tAll ts c H R) :
    ∀ c H R, tAs C W Γ (.lent i as) c H R → tAll (tVar i :: ts) c H R := by
  rintro c H R ⟨Z, s, env, q⟩
  obtain ⟨a, h1, _⟩ := env.ow i hi
  refine ⟨_, h1, h2 c H _ ⟨Z, s, env, ?_⟩⟩
  have ev : evAs (.lent i as) s = evAs as s := rfl
  rw [ev] at q
  cases e2 : evAs as s with
  | stuck => rw [e2] at q; exact q
  | exc x s2 => rw [e2] at q; exact q
  | ok ds s2 =>
    rw [e2] at q
    exact fun vs H2 Z2 p2 kvs => q _ H2 Z2 p2 ⟨_, vs, rfl, hi, h1, kvs⟩
theorem own_conds {Γ : List SK} {own : List Nat} (h : (own.all fun i => decide (Γ[i]? ≠ some SK.ow) && decide (i < Γ.length)) = true) : (∀ i ∈ own, Γ[i]? ≠ some .ow) ∧ ∀ i ∈ own, i < Γ.length := by
  rw [List.all_eq_true] at h
  refine ⟨fun i hi => ?_, fun i hi => ?_⟩
  · have := h i hi
    rw [Bool.and_eq_true, decide_eq_true_eq, decide_eq_true_eq] at this
    exact this.1
  · have := h i hi
    rw [Bool.and_eq_true, decide_eq_true_eq, decide_eq_true_eq] at this
    exact this.2
section
variable {C : Cn} {N : List Str} {k : Nat}
mutual
theorem evE_sound : ∀ (c : CE) {sc : Scope} {W : WX} {X : Cx} {Γ : List SK} {e : Expr} {kd : Kd}, XOk C N sc k W X → OkE C k c → ckE N sc Γ c e = some kd → PE X e (tE C W Γ c kd)
  | .var i, sc, W, X, Γ, e, kd, hX, ok, h => by
    cases e with
    | Name x pos =>
      have h : (if (decide (N[i]? = some x) && visB sc x && plainName x) = true then (match Γ[i]? with
        | some .fr => some .fz
        | some .ow => some (.bo i)
        | _ => none) else none) = some kd := h
      split at h
      · rename_i h0
        split at h
        · rename_i hg
          cases h
          exact var_sound hX h0 (.inl ⟨hg, rfl⟩)
        · rename_i hg
          cases h
          exact var_sound hX h0 (.inr ⟨hg, rfl⟩)
        · cases h
      · cases h
    | _ => cases h
  | .pr P as, sc, W, X, Γ, e, kd, hX, ok, h => by
    have h : (match P.rcg sc e with
      | some es => (match ckEs N sc Γ as es with
        | some ks => if escOk P.esc 0 ks = true then some (if P.nw = true then Kd.nw else .fz) else none
        | none => none)
      | none => none) = some kd := h
    cases e1 : P.rcg sc e with
    | none => rw [e1] at h; cases h
    | some es =>
      rw [e1] at h
      cases e2 : ckEs N sc Γ as es with
      | none => simp only [e2] at h; cases h
      | some ks =>
        simp only [e2] at h
        split at h
        · rename_i he
          cases h
          obtain ⟨ts, q1, q2, q3⟩ := evEs_sound as hX ok.2 e2
          exact PE.weak (ok.1.pe hX e1 q1 q2) (pr_sound he q3)
        · cases h
  | .bool op as, sc, W, X, Γ, e, kd, hX, ok, h => by
    cases e with
    | BoolOp o es pos =>
      have h : (if (opIs op o && decide (2 ≤ es.length)) = true then (match ckEs N sc Γ as es with
        | some ks => if (ks.all fun k => k = Kd.fz) = true then some Kd.fz else none
        | none => none) else none) = some kd := h
      split at h
      · rename_i h0
        rw [Bool.and_eq_true, decide_eq_true_eq] at h0
        cases e2 : ckEs N sc Γ as es with
        | none => simp only [e2] at h; cases h
        | some ks =>
          simp only [e2] at h
          split at h
          · rename_i hf
            cases h
            refine evB_sound as hX ok h0.1 e2 hf fun z => ?_
            subst z
            simp at h0
          · cases h
      · cases h
    | _ => cases h
  | .not a, sc, W, X, Γ, e, kd, hX, ok, h => by
    cases e with
    | UnaryOp o e2 pos =>
      cases o with
      | Not =>
        have h : (match ckE N sc Γ a e2 with
          | some _ => some Kd.fz
          | none => none) = some kd := h
        cases e3 : ckE N sc Γ a e2 with
        | none => rw [e3] at h; cases h
        | some k1 =>
          rw [e3] at h
          cases h
          exact not_sound hX (evE_sound a hX ok e3)
      | _ => cases h
    | _ => cases h
  | .ife c a b, sc, W, X, Γ, e, kd, hX, ok, h => by
    cases e with
    | IfExp ec ea eb pos =>
      have h : (if ckT N sc Γ c ec = true then (match ckE N sc Γ a ea, ckE N sc Γ b eb with
        | some .fz, some .fz => some Kd.fz
        | some .nw, some .nw => some .nw
        | some .fz, some .nw => some .fz
        | some .nw, some .fz => some .fz
        | _, _ => none) else none) = some kd := h
      split at h
      · rename_i hc
        have pc := evT_sound c hX ok.1 hc
        cases e1 : ckE N sc Γ a ea with
        | none => simp only [e1] at h; cases h
        | some k1 =>
          cases e2 : ckE N sc Γ b eb with
          | none => simp only [e1, e2] at h; cases k1 <;> cases h
          | some k2 =>
            simp only [e1, e2] at h
            have pa := evE_sound a hX ok.2.1 e1
            have pb := evE_sound b hX ok.2.2 e2
            refine ife_sound ?_ pc pa pb
            cases k1 <;> cases k2 <;> cases h <;> first | exact .inl ⟨rfl, rfl⟩ | exact .inr ⟨rfl, rfl, rfl⟩
      · cases h
    | _ => cases h
  | .call f as, sc, W, X, Γ, e, kd, hX, ok, h => by
    cases e with
    | Call fe es kws pos =>
      cases fe with
      | Name x p =>
        cases kws with
        | nil =>
          have h : (if (decide (x = f.name) && glB sc x && plainName x && !es.isEmpty && ckAs N sc Γ f.lend as es) = true then some (if f.nw = true then Kd.nw else .fz) else none) = some kd := h
          split at h
          · rename_i h0
            cases h
            simp only [Bool.and_eq_true, decide_eq_true_eq] at h0
            obtain ⟨⟨⟨⟨h1, h2⟩, h3⟩, h4⟩, h5⟩ := h0
            obtain ⟨ts, q1, q2, q3, q4⟩ := evAs_sound as hX ok.2 h5
            cases es with
            | nil => simp at h4
            | cons e1 er => exact call_sound hX ok.1 h1 h2 h3 q4 q1 q2 q3
          · cases h
        | cons _ _ => cases h
      | _ => cases h
    | _ => cases h
  | .pop i as, sc, W, X, Γ, e, kd, hX, ok, h => by
    cases e with
    | Call fe es kws cp =>
      cases fe with
      | Attribute o m ap =>
        cases o with
        | Name x p =>
          cases kws with
          | nil =>
            have h : (if (decide (m = ("pop" : Str)) && (ap.endLine == cp.line) && noStarB es && decide (N[i]? = some x) && visB sc x && plainName x && decide (Γ[i]? = some .ow) && !tcEs i as && decide (es.length ≤ 1)) = true then (match ckEs N sc Γ as es with
              | some ks => if (ks.all fun k => k = Kd.fz) = true then some Kd.fz else none
              | none => none) else none) = some kd := h
            split at h
            · rename_i h0
              simp only [Bool.and_eq_true, decide_eq_true_eq] at h0
              obtain ⟨⟨⟨⟨⟨⟨⟨⟨h1, h2⟩, h3⟩, h4⟩, h5⟩, h6⟩, h7⟩, h8⟩, h9⟩ := h0
              rw [h1]
              have hv : (decide (N[i]? = some x) && visB sc x && plainName x) = true := by simp [h4, h5, h6]
              cases e2 : ckEs N sc Γ as es with
              | none => simp only [e2] at h; cases h
              | some ks =>
                simp only [e2] at h
                split at h
                · rename_i hf
                  cases h
                  obtain ⟨ts, q1, q2, q3⟩ := evEs_sound as hX ok e2
                  cases es with
                  | nil =>
                    cases as with
                    | nil => exact pop0_sound hX hv h2 h7
                    | cons a b => cases e2
                  | cons e1 er =>
                    cases er with
                    | cons _ _ => simp at h9
                    | nil =>
                      cases as with
                      | nil => cases e2
                      | cons a b =>
                        cases b with
                        | cons _ _ =>
                          have e2 : (if isStar e1 = true then none else match ckE N sc Γ a e1, (none : Option (List Kd)) with
                            | some k, some ks => if quiet k _ = true then some (k :: ks) else none
                            | _, _ => none) = some ks := e2
                          split at e2
                          · cases e2
                          · cases hh : ckE N sc Γ a e1 <;> rw [hh] at e2 <;> cases e2
                        | nil =>
                          have hks : ks = [.fz] := by
                            have e2 : (if isStar e1 = true then none else match ckE N sc Γ a e1, (some [] : Option (List Kd)) with
                              | some k, some ks => if quiet k .nil = true then some (k :: ks) else none
                              | _, _ => none) = some ks := e2
                            split at e2
                            · cases e2
                            · cases hh : ckE N sc Γ a e1 with
                              | none => rw [hh] at e2; cases e2
                              | some k1 =>
                                rw [hh] at e2
                                dsimp only at e2
                                split at e2
                                · cases e2
                                  have : (decide (k1 = Kd.fz) && true) = true := hf
                                  rw [Bool.and_true, decide_eq_true_eq] at this
                                  rw [this]
                                · cases e2
                          subst hks
                          exact pop1_sound hX hv h2 h7 q1 q2 q3
                · cases h
            · cases h
          | cons _ _ => cases h
        | _ => cases h
      | _ => cases h
    | _ => cases h
  | .comp P as tg ifs elt own, sc, W, X, Γ, e, kd, hX, ok, h => by
    cases e with
    | ListComp e2 gs scope pos =>
      cases eg : oneGen gs with
      | none =>
        have h : (match oneGen gs with
          | none => none
          | some (t2, it, is) => _) = some kd := h
        rw [eg] at h
        cases h
      | some g =>
        obtain ⟨t2, it, is⟩ := g
        have h : (match oneGen gs with
          | none => none
          | some (t2, it, is) => match P.rcg sc t2 it with
              | some es => (match ckEs N sc Γ as es with
                | some ks => if (!isSet it && L2.blkC N sc scope (own.map fun i => ((N[i]?).getD ⟨#[]⟩, i)) && ckTg N scope tg t2 && decide (tgS tg = own) && quietAll ks ifs elt own && own.all (fun i => decide (Γ[i]? ≠ some .ow) && decide (i < Γ.length)) &&
                    ckTs N (L2.relS scope sc) (setAll Γ .fr own) ifs is && firmO (ckE N (L2.relS scope sc) (setAll Γ .fr own) elt e2)) = true then some Kd.nw else none
                | none => none)
              | none => none) = some kd := h
        rw [eg] at h
        dsimp only at h
        rw [oneGen_eq eg]
        cases e1 : P.rcg sc t2 it with
        | none => rw [e1] at h; cases h
        | some es =>
          rw [e1] at h
          cases e3 : ckEs N sc Γ as es with
          | none => simp only [e3] at h; cases h
          | some ks =>
            simp only [e3] at h
            split at h
            · rename_i h0
              cases h
              simp only [Bool.and_eq_true, decide_eq_true_eq, Bool.not_eq_true'] at h0
              obtain ⟨⟨⟨⟨⟨⟨⟨h1, h2⟩, h3⟩, h4⟩, h5⟩, h6⟩, h7⟩, h8⟩ := h0
              obtain ⟨ts, q1, q2, q3⟩ := evEs_sound as hX ok.2.1 e3
              obtain ⟨o1, o2⟩ := own_conds h6
              cases e4 : ckE N (L2.relS scope sc) (setAll Γ .fr own) elt e2 with
              | none => rw [e4] at h8; cases h8
              | some k1 =>
                rw [e4] at h8
                exact (comp_sound hX ok.1 e1 q1 q2 h5 q3 h2 h3 h1 h8 h4 o1 o2 (fun Y hY => evTs_sound ifs hY ok.2.2.1 h7) fun Y hY => evE_sound elt hY ok.2.2.2 e4).1
            · cases h
    | _ => cases h
  | .keys i tg ifs elt own, sc, W, X, Γ, e, kd, hX, ok, h => by
    cases e with
    | ListComp e2 gs scope pos =>
      cases eg : oneGen gs with
      | none =>
        have h : (match oneGen gs with
          | some (t2, .Name x _, is) => _
          | _ => none) = some kd := h
        rw [eg] at h
        cases h
      | some g =>
        obtain ⟨t2, it, is⟩ := g
        have h : (match oneGen gs with
          | some (t2, .Name x _, is) => if (decide (N[i]? = some x) && visB sc x && plainName x && decide (Γ[i]? = some .fr) && L2.blkC N sc scope (own.map fun i => ((N[i]?).getD ⟨#[]⟩, i)) && ckTg N scope tg t2 && decide (tgS tg = own) && own.all (fun i => decide (Γ[i]? ≠ some .ow) && decide (i < Γ.length)) &&
                  ckTs N (L2.relS scope sc) (setAll Γ .fr own) ifs is && firmO (ckE N (L2.relS scope sc) (setAll Γ .fr own) elt e2)) = true then some Kd.nw else none
          | _ => none) = some kd := h
        rw [eg] at h
        rw [oneGen_eq eg]
        cases it with
            | Name x px =>
              dsimp only at h
              split at h
              · rename_i h0
                cases h
                simp only [Bool.and_eq_true, decide_eq_true_eq, Bool.not_eq_true'] at h0
                obtain ⟨⟨⟨⟨⟨⟨⟨⟨⟨h1, h2⟩, h3⟩, h4⟩, h5⟩, h6⟩, h7⟩, h8⟩, h9⟩, h10⟩ := h0
                have hv : (decide (N[i]? = some x) && visB sc x && plainName x) = true := by simp [h1, h2, h3]
                obtain ⟨o1, o2⟩ := own_conds h8
                cases e4 : ckE N (L2.relS scope sc) (setAll Γ .fr own) elt e2 with
                | none => rw [e4] at h10; cases h10
                | some k1 =>
                  rw [e4] at h10
                  exact (keys_sound hX hv h4 h5 h6 h10 h7 o1 o2 (fun Y hY => evTs_sound ifs hY ok.1 h9) fun Y hY => evE_sound elt hY ok.2 e4).1
              · cases h
            | _ => cases h
    | _ => cases h
  | .meth M o as, sc, W, X, Γ, e, kd, hX, ok, h => by
    have h : (match M.rcg sc e with
      | some (oe, es) => (match ckE N sc Γ o oe, ckEs N sc Γ as es with
        | some k, some ks => if (quiet k as && escOk M.esc 0 ks) = true then some (if M.nw = true then Kd.nw else .fz) else none
        | _, _ => none)
      | none => none) = some kd := h
    cases e1 : M.rcg sc e with
    | none => rw [e1] at h; cases h
    | some oes =>
      obtain ⟨oe, es⟩ := oes
      rw [e1] at h
      dsimp only at h
      cases e2 : ckE N sc Γ o oe with
      | none => rw [e2] at h; cases h
      | some k1 =>
        cases e3 : ckEs N sc Γ as es with
        | none => rw [e2, e3] at h; cases h
        | some ks =>
          rw [e2, e3] at h
          dsimp only at h
          split at h
          · rename_i h0
            cases h
            rw [Bool.and_eq_true] at h0
            obtain ⟨ts, q1, q2, q3⟩ := evEs_sound as hX ok.2.2 e3
            exact PE.weak (ok.1.pe hX e1 (evE_sound o hX ok.2.1 e2) q1 q2) (meth_read (quiet_tc h0.1) h0.2 q3)
          · cases h
  | .chain l1 l2 a b c, sc, W, X, Γ, e, kd, hX, ok, h => by
    cases e with
    | Compare ea os bs pos =>
      match os, bs, h with
      | [o1, o2], [eb, ec], h =>
        have h : (if (ordOp l1 o1 && ordOp l2 o2 && decide (ckE N sc Γ a ea = some .fz) && decide (ckE N sc Γ b eb = some .fz) && (ckE N sc Γ c ec).isSome) = true then some Kd.fz else none) = some kd := h
        split at h
        · rename_i h0
          cases h
          simp only [Bool.and_eq_true, decide_eq_true_eq] at h0
          obtain ⟨⟨⟨⟨h1, h2⟩, h3⟩, h4⟩, h5⟩ := h0
          cases e5 : ckE N sc Γ c ec with
          | none => rw [e5] at h5; cases h5
          | some k3 =>
            rw [ordOp_eq h1, ordOp_eq h2]
            exact (chain_sound hX (evE_sound a hX ok.1 h3) (evE_sound b hX ok.2.1 h4) (evE_sound c hX ok.2.2 e5)).1
        · cases h
      | [], _, h => cases h
      | [_], _, h => cases h
      | _ :: _ :: _ :: _, _, h => cases h
      | [_, _], [], h => cases h
      | [_, _], [_], h => cases h
      | [_, _], _ :: _ :: _ :: _, h => cases h
    | _ => cases h
theorem evEs_sound : ∀ (cs : CEs) {sc : Scope} {W : WX} {X : Cx} {Γ : List SK} {es : List Expr} {ks : List Kd}, XOk C N sc k W X → OkEs C k cs → ckEs N sc Γ cs es = some ks → ∃ ts, PEs X es ts ∧ noStar es = true ∧ ∀ c H R, tEs C W Γ cs ks c H R → tAll ts c H R
  | .nil, sc, W, X, Γ, es, ks, hX, ok, h => by
    cases es with
    | nil => cases h; exact ⟨[], trivial, rfl, nil_sound⟩
    | cons _ _ => cases h
  | .cons c cs, sc, W, X, Γ, es, ks, hX, ok, h => by
    cases es with
    | nil => cases h
    | cons e er =>
      have h : (if isStar e = true then none else match ckE N sc Γ c e, ckEs N sc Γ cs er with
        | some k, some ks => if quiet k cs = true then some (k :: ks) else none
        | _, _ => none) = some ks := h
      split at h
      · cases h
      · rename_i hs
        cases e1 : ckE N sc Γ c e with
        | none => rw [e1] at h; cases h
        | some k1 =>
          cases e2 : ckEs N sc Γ cs er with
          | none => rw [e1, e2] at h; cases h
          | some ks1 =>
            rw [e1, e2] at h
            dsimp only at h
            split at h
            · rename_i hq
              cases h
              obtain ⟨ts, q1, q2, q3⟩ := evEs_sound cs hX ok.2 e2
              refine ⟨_ :: ts, ⟨evE_sound c hX ok.1 e1, q1⟩, ?_, cons_sound (quiet_tc hq) (fun _ _ _ h => h) q3⟩
              show ((!isStar e) && noStar er) = true
              rw [q2, Bool.and_true, Bool.not_eq_true']
              simpa using hs
            · cases h
theorem evAs_sound : ∀ (cs : CAs) {sc : Scope} {W : WX} {X : Cx} {Γ : List SK} {l : List Bool} {es : List Expr}, XOk C N sc k W X → OkAs C k cs → ckAs N sc Γ l cs es = true → ∃ ts, PEs X es ts ∧ noStar es = true ∧ (∀ c H R, tAs C W Γ cs c H R → tAll ts c H R) ∧ fits l cs = true
  | .nil, sc, W, X, Γ, l, es, hX, ok, h => by
    cases l with
    | nil =>
      cases es with
      | nil => exact ⟨[], trivial, rfl, fun c H R ⟨Z, s, env, q⟩ => q [] H Z (.refl env) ⟨rfl, rfl⟩, rfl⟩
      | cons _ _ => cases h
    | cons b l => cases b <;> cases h
  | .val a cs, sc, W, X, Γ, l, es, hX, ok, h => by
    cases l with
    | nil => cases es <;> cases h
    | cons b l =>
      cases b with
      | true => cases es <;> cases h
      | false =>
        cases es with
        | nil => cases h
        | cons e er =>
          have h : (!isStar e && firmO (ckE N sc Γ a e) && ckAs N sc Γ l cs er) = true := h
          simp only [Bool.and_eq_true, Bool.not_eq_true'] at h
          obtain ⟨⟨h1, h2⟩, h3⟩ := h
          cases e1 : ckE N sc Γ a e with
          | none => rw [e1] at h2; cases h2
          | some k1 =>
            rw [e1] at h2
            obtain ⟨ts, q1, q2, q3, q4⟩ := evAs_sound cs hX ok.2 h3
            refine ⟨_ :: ts, ⟨evE_sound a hX ok.1 e1, q1⟩, ?_, aval_sound h2 (fun _ _ _ h => h) q3, q4⟩
            show ((!isStar e) && noStar er) = true
            rw [q2, h1]; rfl
  | .lent i cs, sc, W, X, Γ, l, es, hX, ok, h => by
    cases l with
    | nil => cases es <;> cases h
    | cons b l =>
      cases b with
      | false => cases es <;> cases h
      | true =>
        cases es with
        | nil => cases h
        | cons e er =>
          cases e with
          | Name x p =>
            have h : (decide (N[i]? = some x) && visB sc x && plainName x && decide (Γ[i]? = some .ow) && !notLent i cs && ckAs N sc Γ l cs er) = true := h
            simp only [Bool.and_eq_true, decide_eq_true_eq] at h
            obtain ⟨⟨⟨⟨⟨h1, h2⟩, h3⟩, h4⟩, h5⟩, h6⟩ := h
            have hv : (decide (N[i]? = some x) && visB sc x && plainName x) = true := by simp [h1, h2, h3]
            obtain ⟨ts, q1, q2, q3, q4⟩ := evAs_sound cs hX ok h6
            refine ⟨tVar i :: ts, ⟨var_raw hX hv, q1⟩, q2, alent_sound h4 q3, ?_⟩
            show (!notLent i cs && fits l cs) = true
            rw [h5, q4]; rfl
          | _ => cases h
theorem evT_sound : ∀ (c : CE) {sc : Scope} {W : WX} {X : Cx} {Γ : List SK} {e : Expr}, XOk C N sc k W X → OkE C k c → ckT N sc Γ c e = true → PT X e (tT C W Γ c)
  | .var i, sc, W, X, Γ, e, hX, ok, h => by
    cases e with
    | Name x pos =>
      have h : (decide (N[i]? = some x) && visB sc x && plainName x && (decide (Γ[i]? = some .fr) || decide (Γ[i]? = some .ow))) = true := h
      rw [Bool.and_eq_true, Bool.or_eq_true, decide_eq_true_eq, decide_eq_true_eq] at h
      obtain ⟨h1, h2⟩ := h
      rcases h2 with h2 | h2
      · exact test_of hX rfl (var_sound hX h1 (.inl ⟨h2, rfl⟩)) fun _ => rfl
      · exact test_of hX rfl (var_sound hX h1 (.inr ⟨h2, rfl⟩)) fun _ => rfl
    | _ => cases h
  | .pr P as, sc, W, X, Γ, e, hX, ok, h => by
    have h : (match P.rcg sc e with
      | some es => (match ckEs N sc Γ as es with
        | some ks => escOk P.esc 0 ks && (P.cmp || plainHead e)
        | none => false)
      | none => false) = true := h
    cases e1 : P.rcg sc e with
    | none => rw [e1] at h; cases h
    | some es =>
      rw [e1] at h
      cases e2 : ckEs N sc Γ as es with
      | none => simp only [e2] at h; cases h
      | some ks =>
        simp only [e2] at h
        rw [Bool.and_eq_true, Bool.or_eq_true] at h
        obtain ⟨h1, h2⟩ := h
        obtain ⟨ts, q1, q2, q3⟩ := evEs_sound as hX ok.2 e2
        rcases h2 with h2 | h2
        · exact cmp_test h1 q3 (ok.1.pt h2 hX e1 q1 q2) (ok.1.bl h2)
        · exact test_of hX h2 (PE.weak (ok.1.pe hX e1 q1 q2) (pr_sound h1 q3)) fun s => by
            show (evEs as s).bind _ = ((evEs as s).bind _).bind _
            cases evEs as s <;> rfl
  | .bool op as, sc, W, X, Γ, e, hX, ok, h => by
    cases e with
    | BoolOp o es pos =>
      have h : (opIs op o && !es.isEmpty && ckTA N sc Γ as es) = true := h
      simp only [Bool.and_eq_true] at h
      obtain ⟨⟨h1, h2⟩, h3⟩ := h
      have := evBT_sound as hX ok h1 h3 (pos := pos) fun z => by subst z; simp at h2
      exact PT.weak this.pt fun _ _ _ h => h
    | _ => cases h
  | .not a, sc, W, X, Γ, e, hX, ok, h => by
    cases e with
    | UnaryOp o e2 pos =>
      cases o with
      | Not => exact nott_sound (evT_sound a hX ok h)
      | _ => cases h
    | _ => cases h
  | .call f as, sc, W, X, Γ, e, hX, ok, h => by
    cases e with
    | Call fe es kws pos =>
      cases fe with
      | Name x p =>
        cases kws with
        | nil =>
          have h0 : (decide (x = f.name) && glB sc x && plainName x && !es.isEmpty && ckAs N sc Γ f.lend as es) = true := h
          simp only [Bool.and_eq_true, decide_eq_true_eq] at h0
          obtain ⟨⟨⟨⟨h1, h2⟩, h3⟩, h4⟩, h5⟩ := h0
          obtain ⟨ts, q1, q2, q3, q4⟩ := evAs_sound as hX ok.2 h5
          cases es with
          | nil => simp at h4
          | cons e1 er =>
            refine test_of hX rfl (call_sound hX ok.1 h1 h2 h3 q4 q1 q2 q3) fun s => ?_
            show (evAs as s).bind _ = ((evAs as s).bind _).bind _
            cases evAs as s with
            | ok ds s1 =>
              show (match f.sem (fill as ds s1) with
                | .ret d o => optB (tru d) (putB as o s1)
                | .exc x o => .exc x (putB as o s1)
                | .stuck => .stuck) = Out.bind (match f.sem (fill as ds s1) with
                | .ret d o => .ok d (putB as o s1)
                | .exc x o => .exc x (putB as o s1)
                | .stuck => .stuck) _
              cases f.sem (fill as ds s1) <;> rfl
            | exc _ _ => rfl
            | stuck => rfl
        | cons _ _ => cases h
      | _ => cases h
    | _ => cases h
  | .ife _ _ _, _, _, _, _, _, _, _, h => by cases h
  | .pop _ _, _, _, _, _, _, _, _, h => by cases h
  | .comp P as tg ifs elt own, sc, W, X, Γ, e, hX, ok, h => by
    cases e with
    | ListComp e2 gs scope pos =>
      cases eg : oneGen gs with
      | none =>
        have h : (match oneGen gs with
          | none => false
          | some (t2, it, is) => _) = true := h
        rw [eg] at h
        cases h
      | some g =>
        obtain ⟨t2, it, is⟩ := g
        have h : (match oneGen gs with
          | none => false
          | some (t2, it, is) => match P.rcg sc t2 it with
              | some es => (match ckEs N sc Γ as es with
                | some ks => (!isSet it && L2.blkC N sc scope (own.map fun i => ((N[i]?).getD ⟨#[]⟩, i)) && ckTg N scope tg t2 && decide (tgS tg = own) && quietAll ks ifs elt own && own.all (fun i => decide (Γ[i]? ≠ some .ow) && decide (i < Γ.length)) &&
                    ckTs N (L2.relS scope sc) (setAll Γ .fr own) ifs is && firmO (ckE N (L2.relS scope sc) (setAll Γ .fr own) elt e2))
                | none => false)
              | none => false) = true := h
        rw [eg] at h
        dsimp only at h
        rw [oneGen_eq eg]
        cases e1 : P.rcg sc t2 it with
        | none => rw [e1] at h; cases h
        | some es =>
          rw [e1] at h
          cases e3 : ckEs N sc Γ as es with
          | none => simp only [e3] at h; cases h
          | some ks =>
            simp only [e3] at h
            simp only [Bool.and_eq_true, decide_eq_true_eq, Bool.not_eq_true'] at h
            obtain ⟨⟨⟨⟨⟨⟨⟨h1, h2⟩, h3⟩, h4⟩, h5⟩, h6⟩, h7⟩, h8⟩ := h
            obtain ⟨ts, q1, q2, q3⟩ := evEs_sound as hX ok.2.1 e3
            obtain ⟨o1, o2⟩ := own_conds h6
            cases e4 : ckE N (L2.relS scope sc) (setAll Γ .fr own) elt e2 with
            | none => rw [e4] at h8; cases h8
            | some k1 =>
              rw [e4] at h8
              refine test_of hX rfl (comp_sound hX ok.1 e1 q1 q2 h5 q3 h2 h3 h1 h8 h4 o1 o2 (fun Y hY => evTs_sound ifs hY ok.2.2.1 h7) fun Y hY => evE_sound elt hY ok.2.2.2 e4).1 fun s => ?_
              show (evEs as s).bind _ = ((evEs as s).bind _).bind _
              cases evEs as s with
              | ok ds s1 =>
                show (match P.sem ds with
                  | none => Out.stuck
                  | some items => ((compL tg (fun s2 => evTs ifs s2) (fun s2 => evE elt s2) own items s1 []).calm).bind fun acc s2 => .ok (!acc.isEmpty) (rest s1 s2 own)) = (match P.sem ds with
                  | none => Out.stuck
                  | some items => ((compL tg (fun s2 => evTs ifs s2) (fun s2 => evE elt s2) own items s1 []).calm).bind fun acc s2 => .ok (D.lst acc) (rest s1 s2 own)).bind _
                cases P.sem ds with
                | none => rfl
                | some items =>
                  dsimp only
                  cases (compL tg (fun s2 => evTs ifs s2) (fun s2 => evE elt s2) own items s1 []).calm <;> rfl
              | exc _ _ => rfl
              | stuck => rfl
    | _ => cases h
  | .keys _ _ _ _ _, _, _, _, _, _, _, _, h => by cases h
  | .meth M o as, sc, W, X, Γ, e, hX, ok, h => by
    have h : (match M.rcg sc e with
      | some (oe, es) => (match ckE N sc Γ o oe, ckEs N sc Γ as es with
        | some k, some ks => quiet k as && escOk M.esc 0 ks && plainHead e
        | _, _ => false)
      | none => false) = true := h
    cases e1 : M.rcg sc e with
    | none => rw [e1] at h; cases h
    | some oes =>
      obtain ⟨oe, es⟩ := oes
      rw [e1] at h
      dsimp only at h
      cases e2 : ckE N sc Γ o oe with
      | none => rw [e2] at h; cases h
      | some k1 =>
        cases e3 : ckEs N sc Γ as es with
        | none => rw [e2, e3] at h; cases h
        | some ks =>
          rw [e2, e3] at h
          dsimp only at h
          rw [Bool.and_eq_true, Bool.and_eq_true] at h
          obtain ⟨⟨h1, h2⟩, h3⟩ := h
          obtain ⟨ts, q1, q2, q3⟩ := evEs_sound as hX ok.2.2 e3
          refine test_of hX h3 (PE.weak (ok.1.pe hX e1 (evE_sound o hX ok.2.1 e2) q1 q2) (meth_read (quiet_tc h1) h2 q3)) fun s => ?_
          show ((evE o s).bind fun d s1 => if M.recv d = true then ((evEs as s1).bind fun ds s2 => (optD (M.sem d ds) s2).bind fun r s3 => optB (tru r) s3) else .stuck) = ((evE o s).bind fun d s1 => if M.recv d = true then (evEs as s1).bind fun ds s2 => optD (M.sem d ds) s2 else .stuck).bind _
          cases evE o s with
          | ok d s1 =>
            rw [Out.bind_ok, Out.bind_ok]
            split
            · cases evEs as s1 <;> rfl
            · rfl
          | exc _ _ => rfl
          | stuck => rfl
  | .chain l1 l2 a b c, sc, W, X, Γ, e, hX, ok, h => by
    cases e with
    | Compare ea os bs pos =>
      match os, bs, h with
      | [o1, o2], [eb, ec], h =>
        have h0 : (ordOp l1 o1 && ordOp l2 o2 && decide (ckE N sc Γ a ea = some .fz) && decide (ckE N sc Γ b eb = some .fz) && (ckE N sc Γ c ec).isSome) = true := h
        simp only [Bool.and_eq_true, decide_eq_true_eq] at h0
        obtain ⟨⟨⟨⟨h1, h2⟩, h3⟩, h4⟩, h5⟩ := h0
        cases e5 : ckE N sc Γ c ec with
        | none => rw [e5] at h5; cases h5
        | some k3 =>
          rw [ordOp_eq h1, ordOp_eq h2]
          exact (chain_sound hX (evE_sound a hX ok.1 h3) (evE_sound b hX ok.2.1 h4) (evE_sound c hX ok.2.2 e5)).2
      | [], _, h => cases h
      | [_], _, h => cases h
      | _ :: _ :: _ :: _, _, h => cases h
      | [_, _], [], h => cases h
      | [_, _], [_], h => cases h
      | [_, _], _ :: _ :: _ :: _, h => cases h
    | _ => cases h
theorem evBT_sound : ∀ (cs : CEs) {sc : Scope} {W : WX} {X : Cx} {Γ : List SK} {es : List Expr} {op : Bool} {o : BoolOp} {pos : Pos}, XOk C N sc k W X → OkEs C k cs → opIs op o = true → ckTA N sc Γ cs es = true → es ≠ [] → PW X (.BoolOp o es pos) (tBT C W Γ op cs)
  | .nil, sc, W, X, Γ, es, op, o, pos, hX, ok, ho, h, hn => by
    cases es with
    | nil => exact absurd rfl hn
    | cons _ _ => cases h
  | .cons c .nil, sc, W, X, Γ, es, op, o, pos, hX, ok, ho, h, hn => by
    cases es with
    | nil => cases h
    | cons e er =>
      have h : (ckT N sc Γ c e && ckTA N sc Γ .nil er) = true := h
      rw [Bool.and_eq_true] at h
      cases er with
      | nil => exact boolt_one (evT_sound c hX ok.1 h.1)
      | cons _ _ => cases h.2
  | .cons c (.cons c2 cs), sc, W, X, Γ, es, op, o, pos, hX, ok, ho, h, hn => by
    cases es with
    | nil => cases h
    | cons e er =>
      have h : (ckT N sc Γ c e && ckTA N sc Γ (.cons c2 cs) er) = true := h
      rw [Bool.and_eq_true] at h
      cases er with
      | nil => cases h.2
      | cons e2 er2 => exact boolt_cons ho (evT_sound c hX ok.1 h.1) (evBT_sound (.cons c2 cs) hX ok.2 ho h.2 (List.cons_ne_nil _ _))
theorem evB_sound : ∀ (cs : CEs) {sc : Scope} {W : WX} {X : Cx} {Γ : List SK} {es : List Expr} {ks : List Kd} {op : Bool} {o : BoolOp} {pos : Pos}, XOk C N sc k W X → OkEs C k cs → opIs op o = true → ckEs N sc Γ cs es = some ks → (ks.all fun k => k = Kd.fz) = true → es ≠ [] →
    PE X (.BoolOp o es pos) (fun c H Q => ∃ Z s, Env C.K Z H Γ s c ∧ match evB op cs s with
      | .ok d s1 => ∀ v H1 Z1, PostE C.K Z H Γ c s1 Z1 H1 → KV C.K .fz H Γ c s1 Z1 H1 d v → Q v H1
      | .exc x s1 => ∀ H1 Z1, PostE C.K Z H Γ c s1 Z1 H1 → W (.ref (xa C.mg x)) none c H1
      | .stuck => False)
  | .nil, sc, W, X, Γ, es, ks, op, o, pos, hX, ok, ho, h, hf, hn => by
    cases es with
    | nil => exact absurd rfl hn
    | cons _ _ => cases h
  | .cons c cs, sc, W, X, Γ, es, ks, op, o, pos, hX, ok, ho, h, hf, hn => by
    cases es with
    | nil => cases h
    | cons e er =>
      have h : (if isStar e = true then none else match ckE N sc Γ c e, ckEs N sc Γ cs er with
        | some k, some ks => if quiet k cs = true then some (k :: ks) else none
        | _, _ => none) = some ks := h
      split at h
      · cases h
      · cases e1 : ckE N sc Γ c e with
        | none => rw [e1] at h; cases h
        | some k1 =>
          cases e2 : ckEs N sc Γ cs er with
          | none => rw [e1, e2] at h; cases h
          | some ks1 =>
            rw [e1, e2] at h
            dsimp only at h
            split at h
            · cases h
              have hf : (decide (k1 = Kd.fz) && (ks1.all fun k => k = Kd.fz)) = true := hf
              rw [Bool.and_eq_true, decide_eq_true_eq] at hf
              obtain ⟨rfl, hf⟩ := hf
              have pc := evE_sound c hX ok.1 e1
              cases cs with
              | nil =>
                cases er with
                | nil =>
                  refine PE.weak (bool_one hX (op := op) pc) fun c' H Q h => ?_
                  exact h
                | cons _ _ => cases e2
              | cons c2 cs2 =>
                cases er with
                | nil => cases e2
                | cons e3 er2 => exact bool_cons hX ho pc (evB_sound (.cons c2 cs2) hX ok.2 ho e2 hf (List.cons_ne_nil _ _))
            · cases h
theorem evTs_sound : ∀ (cs : CEs) {sc : Scope} {W : WX} {X : Cx} {Γ : List SK} {es : List Expr}, XOk C N sc k W X → OkEs C k cs → ckTs N sc Γ cs es = true → PTs X es (tTs C W Γ cs)
  | .nil, sc, W, X, Γ, es, hX, ok, h => by
    cases es with
    | nil =>
      refine ⟨fun pins s σ H Q I ⟨Z, sg, env, q⟩ => pts_nil.run pins s σ H Q I (q H Z (.refl env))⟩
    | cons _ _ => cases h
  | .cons c .nil, sc, W, X, Γ, es, hX, ok, h => by
    cases es with
    | nil => cases h
    | cons e er =>
      cases er with
      | nil => exact pts_one (evT_sound c hX ok.1 h)
      | cons _ _ => cases h
  | .cons _ (.cons _ _), sc, W, X, Γ, es, hX, ok, h => by cases h
end
end
end G
end
section
set_option maxRecDepth 10000
/-! Statements: the look, the readings. -/
namespace G
open PySem L2
/-- a def: its names, its scope, the slots that are lent to it, whether it hands back something new -/
structure FI where
  N : List Str
  sc : Scope
  L : List Nat
  nw : Bool
def FI.GL (f : FI) : List SK := (List.range f.N.length).map fun i => if i ∈ f.L then .ow else .un
def wkB (Γ Γ1 : List SK) : Bool := decide (Γ.length = Γ1.length) && (Γ.zip Γ1).all fun p => decide (p.2 = .un) || decide (p.1 = p.2)
theorem wkB_ok {Γ Γ1 : List SK} (h : wkB Γ Γ1 = true) : Γ1.length = Γ.length ∧ weaker Γ Γ1 := by
  unfold wkB at h
  rw [Bool.and_eq_true, decide_eq_true_eq, List.all_eq_true] at h
  obtain ⟨hl, h⟩ := h
  refine ⟨hl.symm, fun i => ?_⟩
  by_cases hi : i < Γ.length
  · have hi1 : i < Γ1.length := by rw [← hl]; exact hi
    have hz : i < (Γ.zip Γ1).length := by rw [List.length_zip]; omega
    have hm : (Γ.zip Γ1)[i] ∈ Γ.zip Γ1 := List.getElem_mem hz
    have := h _ hm
    rw [List.getElem_zip, Bool.or_eq_true, decide_eq_true_eq, decide_eq_true_eq] at this
    rw [List.getElem?_eq_getElem hi, List.getElem?_eq_getElem hi1]
    rcases this with q | q
    · exact .inr (by rw [show Γ1[i] = SK.un from q])
    · exact .inl (by rw [show Γ[i] = Γ1[i] from q])
  · exact .inl (by rw [List.getElem?_eq_none (by omega), List.getElem?_eq_none (by omega)])
/-- the value takes the road on which the name is stored within the comprehension -/
def swB (sc : Scope) (y : Str) (py : Pos) (v : Expr) : Bool := match v with
  | .ListComp _ _ s _ => (sc.names.lookup y == some .local) && (py.line == v.pos.line) && !(s.names.any fun (n, k) => n == y && (k == .local || k == .cell))
  | _ => false
def isLC : Expr → Bool
  | .ListComp _ _ _ _ => true
  | _ => false
/-- the targets are not stored from the right -/
def noSwap (sc : Scope) (t v : Expr) : Bool := match t, v with
  | .Tuple ts _ _, .Tuple vs _ _ => ts.any (fun e => match e with
    | .Name x _ => sc.names.lookup x != some .local
    | _ => true) || vs.all (foldedForSure 8)
  | .List _ _, .Tuple _ _ _ => false
  | _, _ => true
/-- two or three names, stored from the right -/
def swap2 (sc : Scope) (ts : List Expr) (vs : List Expr) : Bool := match ts, vs with
  | [.Name x px, .Name y py], [a, b] => (sc.names.lookup x == some .local) && (sc.names.lookup y == some .local) && decide (px.line = py.line) && decide (x ≠ y) && !isStar a && !isStar b && !([a, b].all (foldedForSure 8)) && !([a, b].all (constantsAlone 8))
  | [.Name x px, .Name y py, .Name z pz], [a, b, c] => (sc.names.lookup x == some .local) && (sc.names.lookup y == some .local) && (sc.names.lookup z == some .local) && decide (px.line = py.line) && decide (px.line = pz.line) && decide (x ≠ y) && decide (x ≠ z) && decide (y ≠ z) && !isStar a && !isStar b && !isStar c && !([a, b, c].all (foldedForSure 8)) && !([a, b, c].all (constantsAlone 8))
  | _, _ => false
def ctB : Ct → Const → Bool
  | .non, .none => true
  | .bl b, .bool c => b == c
  | .int i, .int j => decide (i = j)
  | .str x, .str y => decide (x = y)
  | _, _ => false
def ckHs (fi : FI) (Γ : List SK) (gj : List SK) : Hs → List Stmt → Bool
  | .set i k, [.Assign [.Name y _] (.Constant c _ _) _] => decide (fi.N[i]? = some y) && (fi.sc.names.lookup y == some .local) && !decide (i ∈ fi.L) && ctB k c && decide (i < Γ.length) && wkB (Γ.set i .fr) gj
  | .ret k, [.Return (some (.Constant c _ _)) _] => ctB k c && !fi.nw && wkB Γ fi.GL
  | _, _ => false
def ckHds (fi : FI) (Γ : List SK) (gj : List SK) : List (Ex × Hs) → List ExceptHandler → Bool
  | [], [] => true
  | (x, h) :: hs, .ExceptHandler (some (.Name n _)) none b _ :: r => decide (n = x.name) && glB fi.sc n && plainName n && ckHs fi Γ gj h b && ckHds fi Γ gj hs r
  | _, _ => false
/-- several names at once: which are a list or dict of their own -/
def parK : List (Nat × Bool) → List Kd → Bool
  | [], [] => true
  | (_, o) :: ts, k :: ks => (if o = true then decide (k = .nw) else k.firm) && parK ts ks
  | _, _ => false
def parT (N : List Str) (sc : Scope) : List (Nat × Bool) → List Expr → Bool
  | [], [] => true
  | (i, _) :: ts, .Name x _ :: es => decide (N[i]? = some x) && locB sc x && parT N sc ts es
  | _, _ => false
def parG : List (Nat × Bool) → List SK → List SK
  | [], Γ => Γ
  | (i, o) :: ts, Γ => parG ts (Γ.set i (if o = true then .ow else .fr))
def nmOk (fi : FI) (t v : Expr) : Bool := match t with
  | .Name y py => !swB fi.sc y py v || isLC v
  | _ => true
/-- x.m(a) as a statement -/
def methP : Stmt → Option (Str × Str × Pos × Expr × Pos)
  | .Expr (.Call (.Attribute (.Name x _) m ap) [a] [] cp) _ => some (x, m, ap, a, cp)
  | _ => none
theorem methP_eq {st : Stmt} {x m : Str} {ap cp : Pos} {a : Expr} (h : methP st = some (x, m, ap, a, cp)) : ∃ p pos, st = .Expr (.Call (.Attribute (.Name x p) m ap) [a] [] cp) pos := by
  unfold methP at h
  split at h
  · cases h; exact ⟨_, _, rfl⟩
  · cases h
mutual
/-- what is known of the slots behind a statement (none: it is not come behind) -/
def ckS (fi : FI) (Γx : List SK) : List SK → CS → Stmt → Option (Option (List SK))
  | Γ, .asg tg e, .Assign [t] v _ => match ckE fi.N fi.sc Γ e v with
    | some k => if (k.firm && wkB Γ Γx && ckTg fi.N fi.sc tg t && !isStar t && (tgS tg).all (fun i => !decide (i ∈ fi.L) && decide (i < Γ.length)) && noSwap fi.sc t v && nmOk fi t v) = true then some (some (setAll Γ .fr (tgS tg))) else none
    | none => none
  | Γ, .own i e, .Assign [.Name y py] v _ => if (decide (ckE fi.N fi.sc Γ e v = some .nw) && wkB Γ Γx && decide (fi.N[i]? = some y) && locB fi.sc y && !decide (i ∈ fi.L) && decide (i < Γ.length) && (!swB fi.sc y py v || isLC v)) = true then some (some (Γ.set i .ow)) else none
  | Γ, .par ts es, .Assign [.Tuple tts _ _] (.Tuple vs _ _) _ => match ckEs fi.N fi.sc Γ es vs with
    | some ks => if (parK ts ks && wkB Γ Γx && parT fi.N fi.sc ts tts && ts.all (fun p => !decide (p.1 ∈ fi.L) && decide (p.1 < Γ.length)) && decide ((ts.map (·.1)).Nodup) && decide (ts.length ≤ 8) && (swap2 fi.sc tts vs || noSwap fi.sc (.Tuple tts 0 ⟨0, 0, 0, 0⟩) (.Tuple vs 0 ⟨0, 0, 0, 0⟩))) = true then some (some (parG ts Γ)) else none
    | none => none
  | Γ, .setIt i ix e, .Assign [.Subscript (.Name x _) ixe _] v _ => if (firmO (ckE fi.N fi.sc Γ e v) && decide (ckE fi.N fi.sc Γ ix ixe = some .fz) && wkB Γ Γx && decide (fi.N[i]? = some x) && visB fi.sc x && plainName x && decide (Γ[i]? = some .ow) && plainIx ixe) = true then some (some Γ) else none
  | Γ, .app i e, st => (match methP st with
    | some (x, m, ap, a, cp) => if (decide (m = ("append" : Str)) && methOk fi Γ Γx i x ap cp a && firmO (ckE fi.N fi.sc Γ e a)) = true then some (some Γ) else none
    | none => none)
  | Γ, .ext i e, st => (match methP st with
    | some (x, m, ap, a, cp) => if (decide (m = ("extend" : Str)) && methOk fi Γ Γx i x ap cp a && firmO (ckE fi.N fi.sc Γ e a)) = true then some (some Γ) else none
    | none => none)
  | Γ, .rem i e, st => (match methP st with
    | some (x, m, ap, a, cp) => if (decide (m = ("remove" : Str)) && methOk fi Γ Γx i x ap cp a && firmO (ckE fi.N fi.sc Γ e a)) = true then some (some Γ) else none
    | none => none)
  | Γ, .upd i e, st => (match methP st with
    | some (x, m, ap, a, cp) => if (decide (m = ("update" : Str)) && methOk fi Γ Γx i x ap cp a && firmO (ckE fi.N fi.sc Γ e a)) = true then some (some Γ) else none
    | none => none)
  | Γ, .expr e, .Expr v _ => if ((ckE fi.N fi.sc Γ e v).isSome && wkB Γ Γx && !isComp v) = true then some (some Γ) else none
  | Γ, .iff c a b g, .If ce ba bb _ => if (ckT fi.N fi.sc Γ c ce && wkB Γ Γx) = true then (match ckSs fi Γx Γ a ba, ckSs fi Γx Γ b bb with
    | some none, some none => some none
    | some (some g1), some none => if wkB g1 g = true then some (some g) else none
    | some none, some (some g2) => if wkB g2 g = true then some (some g) else none
    | some (some g1), some (some g2) => if (wkB g1 g && wkB g2 g) = true then some (some g) else none
    | _, _ => none) else none
  | Γ, .for_ P as tg body g, .For t it b [] _ => match P.rcg fi.sc t it with
    | some es => (match ckEs fi.N fi.sc Γ as es with
      | some ks => if (ks.all Kd.firm && wkB Γ Γx && wkB Γ g && !isSet it && ckTg fi.N fi.sc tg t && (tgS tg).all (fun i => !decide (i ∈ fi.L) && decide (i < Γ.length)) && contB (ckSs fi Γx (setAll g .fr (tgS tg)) body b) g) = true then some (some g) else none
      | none => none)
    | none => none
  | Γ, .forK i tg body g, .For t (.Name x _) b [] _ => if (decide (fi.N[i]? = some x) && visB fi.sc x && plainName x && decide (Γ[i]? = some .fr) && wkB Γ g && ckTg fi.N fi.sc tg t && (tgS tg).all (fun i => !decide (i ∈ fi.L) && decide (i < Γ.length)) && contB (ckSs fi Γx (setAll g .fr (tgS tg)) body b) g) = true then some (some g) else none
  | Γ, .whl c body g, .While ce b [] _ => if (wkB Γ g && wkB g Γx && ckT fi.N fi.sc g c ce && contB (ckSs fi Γx g body b) g) = true then some (some g) else none
  | Γ, .ret e, .Return (some v) _ => if (wkB Γ Γx && wkB Γ fi.GL && retB fi Γ e (ckE fi.N fi.sc Γ e v)) = true then some none else none
  | Γ, .raise x, .Raise (some (.Call (.Name n _) [] [] _)) none _ => if (decide (n = x.name) && glB fi.sc n && plainName n && wkB Γ Γx) = true then some none else none
  | Γ, .tri body xs hs gx gj, .Try b hds [] [] _ => match hds with
    | [] => none
    | h0 :: hr => (match ckSs fi gx Γ body b with
      | some r => if (ckHds fi gx gj hs (h0 :: hr) && wkB gx Γx && contB (some r) gj) = true then some (some gj) else none
      | none => none)
  | Γ, .pass, .Pass _ => some (some Γ)
  | _, _, _ => none
termination_by structural _ c => c
def ckSs (fi : FI) (Γx : List SK) : List SK → CSs → List Stmt → Option (Option (List SK))
  | Γ, .nil, [] => some (some Γ)
  | Γ, .cons s ss, st :: sts => match ckS fi Γx Γ s st with
    | some (some Γ1) => ckSs fi Γx Γ1 ss sts
    | some none => some none
    | none => none
  | Γ, .frz i ss, sts => if (decide (Γ[i]? = some .ow) && !decide (i ∈ fi.L)) = true then ckSs fi Γx (Γ.set i .fr) ss sts else none
  | _, _, _ => none
termination_by structural _ c => c
def contB : Option (Option (List SK)) → List SK → Bool
  | some none, _ => true
  | some (some g1), g => wkB g1 g
  | none, _ => false
def methOk (fi : FI) (Γ Γx : List SK) (i : Nat) (x : Str) (ap cp : Pos) (a : Expr) : Bool := decide (fi.N[i]? = some x) && visB fi.sc x && plainName x && decide (Γ[i]? = some .ow) && (ap.endLine == cp.line) && !isStar a && wkB Γ Γx
def retB (fi : FI) (Γ : List SK) : CE → Option Kd → Bool
  | .var i, some (.bo _) => fi.nw && !decide (i ∈ fi.L)
  | _, some k => if fi.nw = true then decide (k = .nw) else k.firm
  | _, none => false
def plainIx : Expr → Bool
  | .Slice _ _ _ _ => false
  | _ => true
end
/-! ### readings -/
structure PostS (K : PySem.W.Frag) (L : List Nat) (Z : Addr → Prop) (H : Hp) (Γ : List SK) (c : St) (Γ1 : List SK) (s1 : Sg) (c1 : St) (Z1 : Addr → Prop) (H1 : Hp) : Prop where
  zz : ∀ a, Z a → Z1 a
  zn : ∀ a, Z1 a → Z a ∨ H a = none ∨ Own Γ c a
  pr : ∀ a o, H a = some o → ¬ Own Γ c a → H1 a = some o
  ow : ∀ a, Own Γ1 c1 a → Own Γ c a ∨ H a = none
  env : Env K Z1 H1 Γ1 s1 c1
  kp : ∀ p ∈ L, c1[p]? = c[p]?
section
variable {K : PySem.W.Frag} {L : List Nat} {Z Z1 Z2 : Addr → Prop} {H H1 H2 : Hp} {Γ Γ1 Γ2 : List SK} {s s1 s2 : Sg} {c c1 c2 : St}
theorem PostS.refl (e : Env K Z H Γ s c) : PostS K L Z H Γ c Γ s c Z H := ⟨fun _ h => h, fun _ h => .inl h, fun _ _ h _ => h, fun _ h => .inl h, e, fun _ _ => rfl⟩
theorem PostS.none (p : PostS K L Z H Γ c Γ1 s1 c1 Z1 H1) {a : Addr} (h : H1 a = none) : H a = none ∨ Own Γ c a := by
  cases e0 : H a with
  | none => exact .inl rfl
  | some o =>
    by_cases w : Own Γ c a
    · exact .inr w
    · rw [p.pr a o e0 w] at h; cases h
theorem PostS.trans (p : PostS K L Z H Γ c Γ1 s1 c1 Z1 H1) (q : PostS K L Z1 H1 Γ1 c1 Γ2 s2 c2 Z2 H2) : PostS K L Z H Γ c Γ2 s2 c2 Z2 H2 := by
  refine ⟨fun a h => q.zz a (p.zz a h), fun a h => ?_, fun a o h w => q.pr a o (p.pr a o h w) fun w2 => ?_, fun a h => ?_, q.env, fun i hi => (q.kp i hi).trans (p.kp i hi)⟩
  · rcases q.zn a h with h | h | h
    · exact p.zn a h
    · exact .inr (p.none h)
    · rcases p.ow a h with h | h
      · exact .inr (.inr h)
      · exact .inr (.inl h)
  · rcases p.ow a w2 with h2 | h2
    · exact w h2
    · rw [h] at h2; cases h2
  · rcases q.ow a h with h | h
    · exact p.ow a h
    · rcases p.none h with h | h
      · exact .inr h
      · exact .inl h
theorem PostE.toS (p : PostE K Z H Γ c s1 Z1 H1) : PostS K L Z H Γ c Γ s1 c Z1 H1 := ⟨p.zz, fun a h => (p.zn a h).imp id .inl, p.pr, fun _ h => .inl h, p.env, fun _ _ => rfl⟩
theorem PostS.weak (p : PostS K L Z H Γ c Γ1 s1 c1 Z1 H1) (w : wkB Γ1 Γ2 = true) : PostS K L Z H Γ c Γ2 s1 c1 Z1 H1 :=
  let ⟨w1, w2⟩ := wkB_ok w
  ⟨p.zz, p.zn, p.pr, fun a h => p.ow a (h.weak w2), p.env.weak w1 w2, p.kp⟩
/-- more is frozen, or the slots' own lists are other ones -/
theorem PostS.mono (e : Env K Z H Γ s c) (p : PostS K L Z H Γ c Γ1 s1 c1 Z1 H1) : Mono Z H Z1 H1 := ⟨p.zz, fun a o h q => p.pr a o h fun w => by
  obtain ⟨h1, o', h2, h3⟩ := e.own w
  rw [h] at h2; cases h2
  rcases q with q | q
  · exact h1 q
  · rw [q] at h3; cases h3⟩
/-- what a def hands back -/
def KR (K : PySem.W.Frag) (nw : Bool) (L : List Nat) (H : Hp) (Γ : List SK) (c c1 : St) (Z1 : Addr → Prop) (H1 : Hp) (d : D) (v : V) : Prop :=
  if nw = true then ∃ a, v = .ref a ∧ (Own Γ c a ∨ H a = none) ∧ ¬ Z1 a ∧ Top K Z1 H1 a d ∧ ∀ p ∈ L, c1[p]? ≠ some (some v) else Rp K Z1 H1 d v
theorem KR.older {nw : Bool} {d : D} {v : V} (p : PostS K L Z H Γ c Γ1 s1 c1 Z1 H1) (h : KR K nw L H1 Γ1 c1 c2 Z2 H2 d v) : KR K nw L H Γ c c2 Z2 H2 d v := by
  unfold KR at h ⊢
  cases nw with
  | false => exact h
  | true =>
    rw [if_pos rfl] at h ⊢
    obtain ⟨a, h1, h2, h3⟩ := h
    refine ⟨a, h1, ?_, h3⟩
    rcases h2 with h2 | h2
    · exact p.ow a h2
    · rcases p.none h2 with h2 | h2
      · exact .inr h2
      · exact .inl h2
end
/-- a statement's (r: what is known behind it) -/
def endS (C : Cn) (W : WX) (fi : FI) (Γx Γ : List SK) (r : Option (List SK)) (Z : Addr → Prop) (H : Hp) (c : St) (D : Ends) : SOut → Prop
  | .nx s1 => ∃ Γ1, r = some Γ1 ∧ ∀ c1 H1 Z1, PostS C.K fi.L Z H Γ c Γ1 s1 c1 Z1 H1 → D.nx c1 H1
  | .ret d s1 => ∀ v c1 H1 Z1, PostS C.K fi.L Z H Γ c fi.GL s1 c1 Z1 H1 → KR C.K fi.nw fi.L H Γ c c1 Z1 H1 d v → D.rt v H1
  | .exc x s1 => ∀ c1 H1 Z1, PostS C.K fi.L Z H Γ c Γx s1 c1 Z1 H1 → W (.ref (xa C.mg x)) none c1 H1
  | .stuck => False
def tS (C : Cn) (W : WX) (fi : FI) (Γx Γ : List SK) (r : Option (List SK)) (cs : CS) : TS := fun D c H => ∃ Z s, Env C.K Z H Γ s c ∧ endS C W fi Γx Γ r Z H c D (evS cs s)
def tSs (C : Cn) (W : WX) (fi : FI) (Γx Γ : List SK) (r : Option (List SK)) (cs : CSs) : TS := fun D c H => ∃ Z s, Env C.K Z H Γ s c ∧ endS C W fi Γx Γ r Z H c D (evSs cs s)
/-- where a def's statements stand -/
structure SOk (C : Cn) (fi : FI) (k : Nat) (W : WX) (X : Cx) : Prop where
  x : XOk C fi.N fi.sc k W X
  stk : X.stack = X.env :: X.outer
  frm : X.env.frame = some X.env.locals
  fn : ∀ x, X.fn x = true
  po : PassesOwn (model X.prog X.w) X.A X.env X.xe
  kd : X.env.scope.kind = .function
section
variable {C : Cn} {fi : FI} {k : Nat} {W : WX} {X : Cx} {Γx Γ Γ1 : List SK} {r : Option (List SK)}
/-- from the reading of a part on -/
theorem endS.from_ {Z Z1 : Addr → Prop} {H H1 : Hp} {s1 : Sg} {c c1 : St} {D : Ends} {o : SOut} (p : PostS C.K fi.L Z H Γ c Γ1 s1 c1 Z1 H1) (h : endS C W fi Γx Γ r Z H c D o) : endS C W fi Γx Γ1 r Z1 H1 c1 D o := by
  cases o with
  | nx s2 =>
    obtain ⟨Γ2, e, h⟩ := h
    exact ⟨Γ2, e, fun c2 H2 Z2 q => h c2 H2 Z2 (p.trans q)⟩
  | ret d s2 => exact fun v c2 H2 Z2 q kr => h v c2 H2 Z2 (p.trans q) (kr.older p)
  | exc x s2 => exact fun c2 H2 Z2 q => h c2 H2 Z2 (p.trans q)
  | stuck => exact h
theorem stores_def (hS : SOk C fi k W X) : Stores fi.sc X := fun x hx => ⟨by rw [← hS.x.sc]; exact locB_loc hx, .inl (hS.fn x)⟩
theorem sw_no {v : Expr} {t : Option Expr} {l : Nat} {env : PySem.Env} (h : isComp v = false) : swapsWith v t l env = pure false := by
  cases v <;> first | rfl | cases h
theorem sw_tup {v : Expr} {es : List Expr} {k0 : Nat} {p0 : Pos} {l : Nat} {env : PySem.Env} : swapsWith v (some (.Tuple es k0 p0)) l env = pure false := by
  cases v <;> rfl
theorem sw_sub {v a b : Expr} {p0 : Pos} {l : Nat} {env : PySem.Env} : swapsWith v (some (.Subscript a b p0)) l env = pure false := by
  cases v <;> rfl
theorem sw_name {v : Expr} {y : Str} {py : Pos} {l : Nat} {env : PySem.Env} (hk : env.scope.kind = .function) (h : swB env.scope y py v = false) (hc : isComp v = false ∨ isLC v = true) : swapsWith v (some (.Name y py)) l env = pure false := by
  rcases hc with hc | hc
  · exact sw_no hc
  · cases v with
    | ListComp e gs s p =>
      have hb : env.blockKind = .function := by unfold PySem.Env.blockKind; rw [hk]; rfl
      unfold swapsWith
      have h : ((env.scope.names.lookup y == some .local) && (py.line == (Expr.ListComp e gs s p).pos.line) && !(s.names.any fun (n, k) => n == y && (k == .local || k == .cell))) = false := h
      show (pure (env.blockKind == .function && env.kindOf y == some .local && py.line == (Expr.ListComp e gs s p).pos.line && !(s.names.any fun (n, k) => n == y && (k == .local || k == .cell))) : Sem Bool) = pure false
      rw [hb]
      have e1 : env.kindOf y = env.scope.names.lookup y := rfl
      rw [e1]
      have e2 : ((ScopeKind.function == ScopeKind.function) && env.scope.names.lookup y == some .local && py.line == (Expr.ListComp e gs s p).pos.line && !(s.names.any fun (n, k) => n == y && (k == .local || k == .cell))) = false := by
        rw [← h]
        simp
      rw [e2]
    | _ => cases hc
end
end G
end
section
set_option maxRecDepth 10000
/-! Statements: the rules. -/
namespace G
open PySem L2
section
variable {C : Cn} {fi : FI} {k : Nat} {W : WX} {X : Cx} {Γx Γ Γ1 : List SK} {r : Option (List SK)}
/-- a refusal within an expression -/
theorem endS.excE {Z Z1 : Addr → Prop} {H H1 : Hp} {s1 : Sg} {c : St} {D : Ends} {x : Ex} (hw : wkB Γ Γx = true) (q : endS C W fi Γx Γ r Z H c D (.exc x s1)) (p : PostE C.K Z H Γ c s1 Z1 H1) : W (.ref (xa C.mg x)) none c H1 :=
  q c H1 Z1 (p.toS.weak hw)
/-- a statement that begins with an expression -/
theorem st_read {e : CE} {kd : Kd} {f : D → Sg → SOut} {Q : VK} {Z : Addr → Prop} {H : Hp} {s : Sg} {c : St} {D : Ends} (hw : wkB Γ Γx = true) (env : Env C.K Z H Γ s c) (q : endS C W fi Γx Γ r Z H c D ((evE e s).st f))
    (h : ∀ d s1, evE e s = .ok d s1 → ∀ v H1 Z1, PostE C.K Z H Γ c s1 Z1 H1 → KV C.K kd H Γ c s1 Z1 H1 d v → endS C W fi Γx Γ r Z H c D (f d s1) → Q v H1) : tE C W Γ e kd c H Q := by
  refine ⟨Z, s, env, ?_⟩
  cases e1 : evE e s with
  | stuck => rw [e1] at q; exact q
  | exc x s1 => rw [e1] at q; exact fun H1 Z1 p => q.excE hw p
  | ok d s1 =>
    rw [e1] at q
    exact fun v H1 Z1 p kv => h d s1 e1 v H1 Z1 p kv q
theorem stT_read {e : CE} {f : Bool → Sg → SOut} {Q : Bool → Hp → Prop} {Z : Addr → Prop} {H : Hp} {s : Sg} {c : St} {D : Ends} (hw : wkB Γ Γx = true) (env : Env C.K Z H Γ s c) (q : endS C W fi Γx Γ r Z H c D ((evT e s).st f))
    (h : ∀ d s1, evT e s = .ok d s1 → ∀ H1 Z1, PostE C.K Z H Γ c s1 Z1 H1 → endS C W fi Γx Γ r Z H c D (f d s1) → Q d H1) : tT C W Γ e c H Q := by
  refine ⟨Z, s, env, ?_⟩
  cases e1 : evT e s with
  | stuck => rw [e1] at q; exact q
  | exc x s1 => rw [e1] at q; exact fun H1 Z1 p => q.excE hw p
  | ok d s1 =>
    rw [e1] at q
    exact fun H1 Z1 p => h d s1 e1 H1 Z1 p q
theorem stL_read {es : CEs} {ks : List Kd} {f : List D → Sg → SOut} {Q : List V → Hp → Prop} {Z : Addr → Prop} {H : Hp} {s : Sg} {c : St} {D : Ends} (hw : wkB Γ Γx = true) (env : Env C.K Z H Γ s c) (q : endS C W fi Γx Γ r Z H c D ((evEs es s).st f))
    (h : ∀ ds s1, evEs es s = .ok ds s1 → ∀ vs H1 Z1, PostE C.K Z H Γ c s1 Z1 H1 → KVs C.K H Γ c s1 Z1 H1 ks ds vs → (nwA ks vs).Nodup → endS C W fi Γx Γ r Z H c D (f ds s1) → Q vs H1) : tEs C W Γ es ks c H Q := by
  refine ⟨Z, s, env, ?_⟩
  cases e1 : evEs es s with
  | stuck => rw [e1] at q; exact q
  | exc x s1 => rw [e1] at q; exact fun H1 Z1 p => q.excE hw p
  | ok d s1 =>
    rw [e1] at q
    exact fun v H1 Z1 p kv nd => h d s1 e1 v H1 Z1 p kv nd q
/-- a value is given away behind an expression -/
theorem give_post {K : PySem.W.Frag} {Z Z1 : Addr → Prop} {H H1 : Hp} {s1 : Sg} {c : St} {kd : Kd} {d : D} {v : V} (hk : kd.firm = true) (p : PostE K Z H Γ c s1 Z1 H1) (kv : KV K kd H Γ c s1 Z1 H1 d v) : ∃ Z2, PostE K Z H Γ c s1 Z2 H1 ∧ Rp K Z2 H1 d v := by
  obtain ⟨Z2, z1, z2, z3, z4, rr⟩ := kv.give p.env hk
  refine ⟨Z2, ⟨fun a h => z1 a (p.zz a h), fun a h => ?_, p.pr, p.env.grow z1 z3 z4⟩, rr⟩
  rcases z2 a h with h | h
  · exact p.zn a h
  · exact .inr h
/-- names stored behind an expression: frozen things -/
theorem PostE.bound {K : PySem.W.Frag} {L : List Nat} {Z Z1 : Addr → Prop} {H H1 : Hp} {s1 s2 : Sg} {c c2 : St} {ts : List Nat} (p : PostE K Z H Γ c s1 Z1 H1) (hl : ∀ i ∈ ts, i ∉ L) (hg : ∀ i ∈ ts, i < Γ.length)
    (e : Env K Z1 H1 (setAll Γ .fr ts) s2 c2) (k : ∀ j, j ∉ ts → c2[j]? = c[j]?) : PostS K L Z H Γ c (setAll Γ .fr ts) s2 c2 Z1 H1 := by
  refine ⟨p.zz, fun a h => (p.zn a h).imp id .inl, p.pr, fun a h => .inl ?_, e, fun i hi => k i fun hm => hl i hm hi⟩
  obtain ⟨i, h1, h2⟩ := h
  rw [setAll_get] at h1
  split at h1
  · cases h1
  · rename_i hn
    exact ⟨i, h1, by rw [← k i fun hm => hn ⟨hm, hg i hm⟩]; exact h2⟩
/-! ### name = value -/
theorem lcAsg_sound (hX : XOk C fi.N fi.sc k W X) : ∀ (e : CE) {v : Expr} {kd : Kd} {i : Nat} {y : Str} {py pos : Pos}, OkE C k e → ckE fi.N fi.sc Γ e v = some kd → isLC v = true → X.N[i]? = some y → X.env.scope.names.lookup y = some .local →
    swapsWith v (some (.Name y py)) pos.line X.env = pure true → PS X (.Assign [.Name y py] v pos) (tAsg (tE C W Γ e kd) (gName i))
  | e, v, kd, i, y, py, pos, ok, h, hv, hy, hl, hs => by
    cases v with
    | ListComp e2 gs scope lp =>
      cases e with
      | comp P as tg ifs elt own =>
        cases eg : oneGen gs with
        | none =>
          have h : (match oneGen gs with
            | none => none
            | some (t2, it, is) => _) = some kd := h
          rw [eg] at h
          cases h
        | some g =>
          obtain ⟨t2, it, is⟩ := g
          have h : (match oneGen gs with
            | none => none
            | some (t2, it, is) => match P.rcg fi.sc t2 it with
                | some es => (match ckEs fi.N fi.sc Γ as es with
                  | some ks => if (!isSet it && L2.blkC fi.N fi.sc scope (own.map fun i => ((fi.N[i]?).getD ⟨#[]⟩, i)) && ckTg fi.N scope tg t2 && decide (tgS tg = own) && quietAll ks ifs elt own && own.all (fun i => decide (Γ[i]? ≠ some .ow) && decide (i < Γ.length)) &&
                      ckTs fi.N (L2.relS scope fi.sc) (setAll Γ .fr own) ifs is && firmO (ckE fi.N (L2.relS scope fi.sc) (setAll Γ .fr own) elt e2)) = true then some Kd.nw else none
                  | none => none)
                | none => none) = some kd := h
          rw [eg] at h
          dsimp only at h
          rw [oneGen_eq eg] at hs ⊢
          cases e1 : P.rcg fi.sc t2 it with
          | none => rw [e1] at h; cases h
          | some es =>
            rw [e1] at h
            cases e3 : ckEs fi.N fi.sc Γ as es with
            | none => simp only [e3] at h; cases h
            | some ks =>
              simp only [e3] at h
              split at h
              · rename_i h0
                cases h
                simp only [Bool.and_eq_true, decide_eq_true_eq, Bool.not_eq_true'] at h0
                obtain ⟨⟨⟨⟨⟨⟨⟨h1, h2⟩, h3⟩, h4⟩, h5⟩, h6⟩, h7⟩, h8⟩ := h0
                obtain ⟨ts, q1, q2, q3⟩ := evEs_sound as hX ok.2.1 e3
                obtain ⟨o1, o2⟩ := own_conds h6
                cases e4 : ckE fi.N (L2.relS scope fi.sc) (setAll Γ .fr own) elt e2 with
                | none => rw [e4] at h8; cases h8
                | some k1 =>
                  rw [e4] at h8
                  exact (comp_sound hX ok.1 e1 q1 q2 h5 q3 h2 h3 h1 h8 h4 o1 o2 (fun Y hY => evTs_sound ifs hY ok.2.2.1 h7) fun Y hY => evE_sound elt hY ok.2.2.2 e4).2 hy hl hs
              · cases h
      | keys j tg ifs elt own =>
        cases eg : oneGen gs with
        | none =>
          have h : (match oneGen gs with
            | some (t2, .Name x _, is) => _
            | _ => none) = some kd := h
          rw [eg] at h
          cases h
        | some g =>
          obtain ⟨t2, it, is⟩ := g
          have h : (match oneGen gs with
            | some (t2, .Name x _, is) => if (decide (fi.N[j]? = some x) && visB fi.sc x && plainName x && decide (Γ[j]? = some .fr) && L2.blkC fi.N fi.sc scope (own.map fun i => ((fi.N[i]?).getD ⟨#[]⟩, i)) && ckTg fi.N scope tg t2 && decide (tgS tg = own) && own.all (fun i => decide (Γ[i]? ≠ some .ow) && decide (i < Γ.length)) &&
                    ckTs fi.N (L2.relS scope fi.sc) (setAll Γ .fr own) ifs is && firmO (ckE fi.N (L2.relS scope fi.sc) (setAll Γ .fr own) elt e2)) = true then some Kd.nw else none
            | _ => none) = some kd := h
          rw [eg] at h
          rw [oneGen_eq eg] at hs ⊢
          cases it with
          | Name x px =>
            dsimp only at h
            split at h
            · rename_i h0
              cases h
              simp only [Bool.and_eq_true, decide_eq_true_eq, Bool.not_eq_true'] at h0
              obtain ⟨⟨⟨⟨⟨⟨⟨⟨⟨h1, h2⟩, h3⟩, h4⟩, h5⟩, h6⟩, h7⟩, h8⟩, h9⟩, h10⟩ := h0
              have hv : (decide (fi.N[j]? = some x) && visB fi.sc x && plainName x) = true := by simp [h1, h2, h3]
              obtain ⟨o1, o2⟩ := own_conds h8
              cases e4 : ckE fi.N (L2.relS scope fi.sc) (setAll Γ .fr own) elt e2 with
              | none => rw [e4] at h10; cases h10
              | some k1 =>
                rw [e4] at h10
                exact (keys_sound hX hv h4 h5 h6 h10 h7 o1 o2 (fun Y hY => evTs_sound ifs hY ok.1 h9) fun Y hY => evE_sound elt hY ok.2 e4).2 hy hl hs
            · cases h
          | _ => cases h
      | pr P as =>
        have h : (match P.rcg fi.sc (.ListComp e2 gs scope lp) with
          | some es => (match ckEs fi.N fi.sc Γ as es with
            | some ks => if escOk P.esc 0 ks = true then some (if P.nw = true then Kd.nw else .fz) else none
            | none => none)
          | none => none) = some kd := h
        cases e1 : P.rcg fi.sc (.ListComp e2 gs scope lp) with
        | none => rw [e1] at h; cases h
        | some es => cases ok.1.nc e1
      | meth M o as =>
        have h : (match M.rcg fi.sc (.ListComp e2 gs scope lp) with
          | some (oe, es) => (match ckE fi.N fi.sc Γ o oe, ckEs fi.N fi.sc Γ as es with
            | some k, some ks => if (quiet k as && escOk M.esc 0 ks) = true then some (if M.nw = true then Kd.nw else .fz) else none
            | _, _ => none)
          | none => none) = some kd := h
        cases e1 : M.rcg fi.sc (.ListComp e2 gs scope lp) with
        | none => rw [e1] at h; cases h
        | some es =>
          obtain ⟨o1, es⟩ := es
          cases ok.1.nc e1
      | _ => cases h
    | _ => cases hv
theorem set_sound (hS : SOk C fi k W X) {e : CE} {v : Expr} {kd : Kd} {i : Nat} {y : Str} {py pos : Pos} (ok : OkE C k e) (h : ckE fi.N fi.sc Γ e v = some kd) (hy : fi.N[i]? = some y) (hl : locB fi.sc y = true) (hsw : swB fi.sc y py v = false ∨ isLC v = true)
    (hnc : isComp v = false ∨ isLC v = true) : PS X (.Assign [.Name y py] v pos) (tAsg (tE C W Γ e kd) (gName i)) := by
  have hX := hS.x
  have hy' : X.N[i]? = some y := by rw [← hX.N]; exact hy
  have hloc : L2.Loc X.env.scope y := by rw [← hX.sc]; exact locB_loc hl
  cases hb : swB fi.sc y py v with
  | false =>
    exact ps_set hX.nd hy' hloc (evE_sound e hX ok h) (sw_name hS.kd (by rw [← hX.sc]; exact hb) hnc) (.inl (hS.fn y))
  | true =>
    have hLC : isLC v = true := hsw.elim (fun z => by rw [hb] at z; cases z) id
    cases v with
    | ListComp e2 gs s p =>
      have hb : ((fi.sc.names.lookup y == some .local) && (py.line == (Expr.ListComp e2 gs s p).pos.line) && !(s.names.any fun (n, k) => n == y && (k == .local || k == .cell))) = true := hb
      rw [Bool.and_eq_true, Bool.and_eq_true] at hb
      obtain ⟨⟨b1, b2⟩, b3⟩ := hb
      have b1 : X.env.scope.names.lookup y = some .local := by rw [← hX.sc]; simpa using b1
      exact lcAsg_sound hX e ok h rfl hy' b1 (sw_true hS.kd b1 b2 (by simpa using b3))
    | _ => cases hLC
theorem ck_comp {e : CE} {v : Expr} {kd : Kd} (ok : OkE C k e) (h : ckE fi.N fi.sc Γ e v = some kd) : isComp v = false ∨ isLC v = true := by
  cases e with
  | pr P as =>
    have h : (match P.rcg fi.sc v with
      | some es => (match ckEs fi.N fi.sc Γ as es with
        | some ks => if escOk P.esc 0 ks = true then some (if P.nw = true then Kd.nw else .fz) else none
        | none => none)
      | none => none) = some kd := h
    cases e1 : P.rcg fi.sc v with
    | none => rw [e1] at h; cases h
    | some es => exact .inl (ok.1.nc e1)
  | meth M o as =>
    have h : (match M.rcg fi.sc v with
      | some (oe, es) => (match ckE fi.N fi.sc Γ o oe, ckEs fi.N fi.sc Γ as es with
        | some k, some ks => if (quiet k as && escOk M.esc 0 ks) = true then some (if M.nw = true then Kd.nw else .fz) else none
        | _, _ => none)
      | none => none) = some kd := h
    cases e1 : M.rcg fi.sc v with
    | none => rw [e1] at h; cases h
    | some es =>
      obtain ⟨o1, es⟩ := es
      exact .inl (ok.1.nc e1)
  | _ => cases v <;> first | exact .inl rfl | exact .inr rfl | cases h
theorem asg_read {e : CE} {kd : Kd} {i : Nat} (hk : kd.firm = true) (hw : wkB Γ Γx = true) (hi : i ∉ fi.L) (hg : i < Γ.length) :
    ∀ D c H, tS C W fi Γx Γ (some (setAll Γ .fr [i])) (.asg (.name i) e) D c H → tAsg (tE C W Γ e kd) (gName i) D c H := by
  rintro D c H ⟨Z, s, env, q⟩
  refine st_read hw env q fun d s1 e1 v H1 Z1 p kv q => ?_
  obtain ⟨Z2, p2, rr⟩ := give_post hk p kv
  have hb : bnd (.name i) d s1 = some (s1.set i d) := by
    show (if i < s1.length then some (s1.set i d) else none) = _
    rw [if_pos (by rw [p.env.len.1, ← p.env.len.2]; exact hg)]
  simp only [hb] at q
  obtain ⟨G2, e2, q⟩ := q
  cases e2
  refine q _ H1 Z2 (p2.bound (ts := [i]) (fun j hj => by rw [List.mem_singleton.mp hj]; exact hi) (fun j hj => by rw [List.mem_singleton.mp hj]; exact hg) (p2.env.setF (by rw [p.env.len.1, ← p.env.len.2]; exact hg) rr) fun j hj => ?_)
  rw [List.getElem?_set_ne fun z => hj (by rw [z]; exact List.mem_singleton.mpr rfl)]
theorem own_read {e : CE} {i : Nat} (hw : wkB Γ Γx = true) (hi : i ∉ fi.L) (hg : i < Γ.length) :
    ∀ D c H, tS C W fi Γx Γ (some (Γ.set i .ow)) (.own i e) D c H → tAsg (tE C W Γ e .nw) (gName i) D c H := by
  rintro D c H ⟨Z, s, env, q⟩
  refine st_read hw env q fun d s1 e1 v H1 Z1 p kv q => ?_
  obtain ⟨G2, e2, q⟩ := q
  cases e2
  obtain ⟨a, rfl, h1, h2, h3, h4⟩ := kv
  refine q _ H1 Z1 ⟨p.zz, fun b h => (p.zn b h).imp id .inl, p.pr, fun b h => ?_, p.env.setO (by rw [p.env.len.1, ← p.env.len.2]; exact hg) h2 h3 h4, fun j hj => ?_⟩
  · obtain ⟨j, x1, x2⟩ := h
    by_cases hj : i = j
    · subst hj
      rw [List.getElem?_set_self (by rw [← p.env.len.2]; exact hg)] at x2
      cases x2
      exact .inr h1
    · rw [List.getElem?_set_ne hj] at x1 x2
      exact .inl ⟨j, x1, x2⟩
  · rw [List.getElem?_set_ne fun z => hi (by rw [z]; exact hj)]
/-- (a, b, ..) = value -/
theorem asgT_read {e : CE} {kd : Kd} {ts : List Tg} (hk : kd.firm = true) (hw : wkB Γ Γx = true) (hi : ∀ i ∈ tgS (.tup ts), i ∉ fi.L) (hg : ∀ i ∈ tgS (.tup ts), i < Γ.length) :
    ∀ D c H, tS C W fi Γx Γ (some (setAll Γ .fr (tgS (.tup ts)))) (.asg (.tup ts) e) D c H → tAsg (tE C W Γ e kd) (gT C.K (.tup ts)) D c H := by
  rintro D c H ⟨Z, s, env, q⟩
  refine st_read hw env q fun d s1 e1 v H1 Z1 p kv q => ?_
  obtain ⟨Z2, p2, rr⟩ := give_post hk p kv
  cases hb : bnd (.tup ts) d s1 with
  | none => simp only [hb] at q; exact q.elim
  | some s2 =>
    simp only [hb] at q
    obtain ⟨G2, e2, q⟩ := q
    cases e2
    exact bnd_sound (.tup ts) d v s1 s2 Γ c _ p2.env (.inl rr) (fun _ _ => rr) hb fun c2 e2 k2 => q c2 H1 Z2 (p2.bound hi hg e2 k2)
end
end G
end
section
set_option maxRecDepth 10000
/-! Several names at once; items stored; methods that change a list. -/
namespace G
open PySem L2
section
variable {K : PySem.W.Frag} {Z Z1 : Addr → Prop} {H H1 : Hp} {Γ : List SK} {s s1 : Sg} {c : St}
/-- where the own ones will stand -/
def ownA : List (Nat × Bool) → List V → List Addr
  | (_, true) :: ts, .ref a :: vs => a :: ownA ts vs
  | _ :: ts, _ :: vs => ownA ts vs
  | _, _ => []
/-- the values, as the names take them -/
def PIt (K : PySem.W.Frag) (Z : Addr → Prop) (H : Hp) : List (Nat × Bool) → List D → List V → Prop
  | [], ds, vs => ds = [] ∧ vs = []
  | (_, o) :: ts, ds, vs => ∃ d dr v vr, ds = d :: dr ∧ vs = v :: vr ∧ (if o = true then ∃ a, v = .ref a ∧ ¬ Z a ∧ Top K Z H a d else Rp K Z H d v) ∧ PIt K Z H ts dr vr
theorem PIt.mono {Z2 : Addr → Prop} (z : ∀ a, Z a → Z2 a) : ∀ {ts : List (Nat × Bool)} {ds : List D} {vs : List V}, (∀ a ∈ ownA ts vs, ¬ Z2 a) → PIt K Z H ts ds vs → PIt K Z2 H ts ds vs
  | [], _, _, _, h => h
  | (i, true) :: ts, _, _, hn, ⟨d, dr, v, vr, e1, e2, h1, h2⟩ => by
    subst e1; subst e2
    rw [if_pos rfl] at h1
    obtain ⟨a, e, za, t⟩ := h1
    subst e
    refine ⟨d, dr, _, vr, rfl, rfl, ?_, PIt.mono z (fun b hb => hn b (List.mem_cons_of_mem _ hb)) h2⟩
    rw [if_pos rfl]
    exact ⟨a, rfl, hn a List.mem_cons_self, t.mono ⟨z, fun _ _ h _ => h⟩ rfl⟩
  | (i, false) :: ts, _, _, hn, ⟨d, dr, v, vr, e1, e2, h1, h2⟩ => by
    subst e1; subst e2
    rw [if_neg Bool.false_ne_true] at h1
    have hl : ownA ((i, false) :: ts) (v :: vr) = ownA ts vr := by cases v <;> rfl
    rw [hl] at hn
    refine ⟨d, dr, _, vr, rfl, rfl, ?_, PIt.mono z hn h2⟩
    rw [if_neg Bool.false_ne_true]
    exact Rp.mono ⟨z, fun _ _ h _ => h⟩ _ _ h1
theorem par_go (e : Env K Z1 H1 Γ s1 c) {H0 : Hp} : ∀ {ts : List (Nat × Bool)} {ks : List Kd} {ds : List D} {vs : List V}, parK ts ks = true → KVs K H0 Γ c s1 Z1 H1 ks ds vs → (nwA ks vs).Nodup →
    ∃ Z2 : Addr → Prop, (∀ a, Z1 a → Z2 a) ∧ (∀ a, Z2 a → Z1 a ∨ a ∈ nwA ks vs) ∧ (∀ a ∈ nwA ks vs, H0 a = none ∧ H1 a ≠ none ∧ ¬ Own Γ c a ∧ ¬ Z1 a) ∧ (∀ a ∈ ownA ts vs, a ∈ nwA ks vs ∧ ¬ Z2 a) ∧ (ownA ts vs).Nodup ∧ PIt K Z2 H1 ts ds vs
  | [], [], _, _, _, ⟨h1, h2⟩, _ => by
    subst h1; subst h2
    exact ⟨Z1, fun _ h => h, fun _ h => .inl h, fun a ha => by simp [nwA] at ha, fun a ha => by simp [ownA] at ha, List.nodup_nil, ⟨rfl, rfl⟩⟩
  | (i, o) :: ts, k :: ks, _, _, hp, ⟨d, dr, v, vr, e1, e2, h1, h2⟩, nd => by
    subst e1; subst e2
    have hp2 : ((if o = true then decide (k = .nw) else k.firm) && parK ts ks) = true := hp
    rw [Bool.and_eq_true] at hp2
    obtain ⟨hk, hpr⟩ := hp2
    cases k with
    | bo j =>
      cases o with
      | true => simp at hk
      | false => cases hk
    | fz =>
      cases o with
      | true => simp at hk
      | false =>
        have hn : nwA (.fz :: ks) (v :: vr) = nwA ks vr := by cases v <;> rfl
        have ho : ownA ((i, false) :: ts) (v :: vr) = ownA ts vr := by cases v <;> rfl
        rw [hn] at nd ⊢
        rw [ho]
        obtain ⟨Z2, z1, z2, z3, z4, z5, z6⟩ := par_go e hpr h2 nd
        refine ⟨Z2, z1, z2, z3, z4, z5, d, dr, v, vr, rfl, rfl, ?_, z6⟩
        rw [if_neg Bool.false_ne_true]
        exact Rp.mono ⟨z1, fun _ _ h _ => h⟩ _ _ h1
    | nw =>
      obtain ⟨a, rfl, x1, x2, x3, x4⟩ := h1
      have hn : nwA (.nw :: ks) (.ref a :: vr) = a :: nwA ks vr := rfl
      rw [hn] at nd ⊢
      obtain ⟨na, nd⟩ := List.nodup_cons.mp nd
      obtain ⟨Z2, z1, z2, z3, z4, z5, z6⟩ := par_go e hpr h2 nd
      obtain ⟨w, hw, _⟩ := x4.at
      have nz : ¬ Z2 a := fun z => by
        rcases z2 a z with z | z
        · exact x2 z
        · exact na z
      have here : ∀ b ∈ a :: nwA ks vr, H0 b = none ∧ H1 b ≠ none ∧ ¬ Own Γ c b ∧ ¬ Z1 b := fun b hb => by
        rcases List.mem_cons.mp hb with q | q
        · subst q
          exact ⟨x1, (by rw [hw]; exact fun z => nomatch z), x3, x2⟩
        · exact z3 b q
      cases o with
      | true =>
        have ho : ownA ((i, true) :: ts) (.ref a :: vr) = a :: ownA ts vr := rfl
        rw [ho]
        refine ⟨Z2, z1, fun b h => (z2 b h).imp id (List.mem_cons_of_mem _), here, fun b hb => ?_, List.nodup_cons.mpr ⟨fun hm => na (z4 a hm).1, z5⟩, d, dr, _, vr, rfl, rfl, ?_, z6⟩
        · rcases List.mem_cons.mp hb with q | q
          · subst q
            exact ⟨List.mem_cons_self, nz⟩
          · exact ⟨List.mem_cons_of_mem _ (z4 b q).1, (z4 b q).2⟩
        · rw [if_pos rfl]
          exact ⟨a, rfl, nz, x4.mono ⟨z1, fun _ _ h _ => h⟩ rfl⟩
      | false =>
        have ho : ownA ((i, false) :: ts) (.ref a :: vr) = ownA ts vr := rfl
        rw [ho]
        have notA : ∀ b ∈ ownA ts vr, ¬ (Z2 b ∨ b = a) := fun b hb w => by
          rcases w with w | w
          · exact (z4 b hb).2 w
          · subst w; exact na (z4 b hb).1
        refine ⟨fun b => Z2 b ∨ b = a, fun b h => .inl (z1 b h), fun b h => ?_, here, fun b hb => ⟨List.mem_cons_of_mem _ (z4 b hb).1, notA b hb⟩, z5, d, dr, _, vr, rfl, rfl, ?_, PIt.mono (fun _ h => .inl h) notA z6⟩
        · rcases h with h | h
          · exact (z2 b h).imp id (List.mem_cons_of_mem _)
          · rw [h]; exact .inr List.mem_cons_self
        · rw [if_neg Bool.false_ne_true]
          exact (x4.mono (Z1 := fun b => Z2 b ∨ b = a) ⟨fun b h => .inl (z1 b h), fun _ _ h _ => h⟩ rfl).give (.inr rfl)
  | [], _ :: _, _, _, h, _, _ => by cases h
  | (_, _) :: _, [], _, _, h, _, _ => by cases h
def parC : List (Nat × Bool) → List V → St → St
  | (i, _) :: ts, v :: vs, c => parC ts vs (c.set i (some v))
  | _, _, c => c
/-- the names stored, one after another -/
theorem par_env : ∀ {ts : List (Nat × Bool)} {ds : List D} {vs : List V} {Γ : List SK} {s : Sg} {c : St}, Env K Z H Γ s c → PIt K Z H ts ds vs → (ownA ts vs).Nodup → (∀ a ∈ ownA ts vs, ¬ Own Γ c a) → (∀ p ∈ ts, p.1 < Γ.length) →
    Env K Z H (parG ts Γ) (parSet ts ds s) (parC ts vs c) ∧ (∀ a, Own (parG ts Γ) (parC ts vs c) a → Own Γ c a ∨ a ∈ ownA ts vs) ∧ ∀ j, j ∉ ts.map (·.1) → (parC ts vs c)[j]? = c[j]?
  | [], _, _, Γ, s, c, e, ⟨h1, h2⟩, _, _, _ => by
    subst h1; subst h2
    exact ⟨e, fun _ h => .inl h, fun _ _ => rfl⟩
  | (i, o) :: ts, _, _, Γ, s, c, e, ⟨d, dr, v, vr, e1, e2, h1, h2⟩, nd, no, hl => by
    subst e1; subst e2
    have hg : i < Γ.length := hl (i, o) List.mem_cons_self
    have hs : i < s.length := by rw [e.len.1, ← e.len.2]; exact hg
    have hc : i < c.length := by rw [← e.len.2]; exact hg
    have keep : ∀ {k : SK} {w : Option V} {a : Addr}, (Own (Γ.set i k) (c.set i w) a) → (k = .ow ∧ w = some (.ref a)) ∨ Own Γ c a := fun {k w a} h => by
      obtain ⟨j, x1, x2⟩ := h
      by_cases hj : i = j
      · subst hj
        rw [List.getElem?_set_self hg] at x1
        rw [List.getElem?_set_self hc] at x2
        cases x1; cases x2
        exact .inl ⟨rfl, rfl⟩
      · rw [List.getElem?_set_ne hj] at x1 x2
        exact .inr ⟨j, x1, x2⟩
    have after : ∀ (Γ2 : List SK) (c2 : St), Γ2 = Γ.set i (if o = true then .ow else .fr) → c2 = c.set i (some v) → ∀ {s2 : Sg}, Env K Z H Γ2 s2 c2 → (ownA ts vr).Nodup → (∀ a ∈ ownA ts vr, ¬ Own Γ2 c2 a) → (∀ a, Own Γ2 c2 a → Own Γ c a ∨ a ∈ ownA ((i, o) :: ts) (v :: vr)) → (∀ a ∈ ownA ts vr, a ∈ ownA ((i, o) :: ts) (v :: vr)) → s2 = s.set i d →
        Env K Z H (parG ((i, o) :: ts) Γ) (parSet ((i, o) :: ts) (d :: dr) s) (parC ((i, o) :: ts) (v :: vr) c) ∧ (∀ a, Own (parG ((i, o) :: ts) Γ) (parC ((i, o) :: ts) (v :: vr) c) a → Own Γ c a ∨ a ∈ ownA ((i, o) :: ts) (v :: vr)) ∧ ∀ j, j ∉ ((i, o) :: ts).map (·.1) → (parC ((i, o) :: ts) (v :: vr) c)[j]? = c[j]? := by
      rintro Γ2 c2 rfl rfl s2 e2 nd2 no2 k1 k2 rfl
      obtain ⟨r1, r2, r3⟩ := par_env e2 h2 nd2 no2 (fun p hp => by rw [List.length_set]; exact hl p (List.mem_cons_of_mem _ hp))
      refine ⟨r1, fun a h => ?_, fun j hj => ?_⟩
      · rcases r2 a h with h | h
        · exact k1 a h
        · exact .inr (k2 a h)
      · have hj : j ∉ i :: ts.map (·.1) := hj
        rw [List.mem_cons, not_or] at hj
        have := r3 j hj.2
        rw [List.getElem?_set_ne (Ne.symm hj.1)] at this
        exact this
    cases o with
    | false =>
      rw [if_neg Bool.false_ne_true] at h1
      have ho : ownA ((i, false) :: ts) (v :: vr) = ownA ts vr := by cases v <;> rfl
      rw [ho] at nd no
      refine after _ _ rfl rfl (e.setF hs h1) nd (fun a ha w => ?_) (fun a w => ?_) (fun a ha => by rw [ho]; exact ha) rfl
      · rcases keep w with ⟨w, _⟩ | w
        · cases w
        · exact no a ha w
      · rcases keep w with ⟨w, _⟩ | w
        · cases w
        · exact .inl w
    | true =>
      rw [if_pos rfl] at h1
      obtain ⟨a, rfl, nz, t⟩ := h1
      have ho : ownA ((i, true) :: ts) (.ref a :: vr) = a :: ownA ts vr := rfl
      rw [ho] at nd no
      obtain ⟨na, nd⟩ := List.nodup_cons.mp nd
      refine after _ _ rfl rfl (e.setO hs nz (no a List.mem_cons_self) t) nd (fun b hb w => ?_) (fun b w => ?_) (fun b hb => by rw [ho]; exact List.mem_cons_of_mem _ hb) rfl
      · rcases keep w with ⟨_, w⟩ | w
        · cases w; exact na hb
        · exact no b (List.mem_cons_of_mem _ hb) w
      · rcases keep w with ⟨_, w⟩ | w
        · cases w; rw [ho]; exact .inr List.mem_cons_self
        · exact .inl w
theorem PIt.len : ∀ {ts : List (Nat × Bool)} {ds : List D} {vs : List V}, PIt K Z H ts ds vs → vs.length = ts.length
  | [], _, _, ⟨_, h⟩ => by rw [h]; rfl
  | (_, _) :: ts, _, _, ⟨d, dr, v, vr, e1, e2, _, h⟩ => by rw [e2, List.length_cons, List.length_cons, PIt.len h]
end
/-- .. as the tuple's targets have it -/
theorem par_gs {K : PySem.W.Frag} : ∀ {ts : List (Nat × Bool)} {vs : List V} {c : St} {H : Hp} {Q : St → Hp → Prop}, vs.length = ts.length → Q (parC ts vs c) H → gTs K (ts.map fun p => .name p.1) vs c H Q
  | [], [], _, _, _, _, q => ⟨rfl, q⟩
  | (i, o) :: ts, v :: vs, c, H, Q, hl, q => ⟨v, vs, rfl, par_gs (by simpa using hl) q⟩
  | [], _ :: _, _, _, _, hl, _ => by simp at hl
  | _ :: _, [], _, _, _, hl, _ => by simp at hl
section
variable {C : Cn} {fi : FI} {k : Nat} {W : WX} {X : Cx} {Γx Γ Γ1 : List SK} {r : Option (List SK)}
theorem swap2_ok {env : PySem.Env} {ts vs : List Expr} {k0 k1 : Nat} {p0 p1 : Pos} (hk : env.scope.kind = .function) (h : swap2 env.scope ts vs = true) : (∃ x px y py a b, ts = [.Name x px, .Name y py] ∧ vs = [a, b] ∧ env.scope.names.lookup x = some .local ∧ env.scope.names.lookup y = some .local ∧
    swappedStores [.Tuple ts k0 p0] (.Tuple vs k1 p1) env = pure (some [x, y])) ∨ ∃ x px y py z pz a b c, ts = [.Name x px, .Name y py, .Name z pz] ∧ vs = [a, b, c] ∧ env.scope.names.lookup x = some .local ∧ env.scope.names.lookup y = some .local ∧ env.scope.names.lookup z = some .local ∧
    swappedStores [.Tuple ts k0 p0] (.Tuple vs k1 p1) env = pure (some [x, y, z]) := by
  have hb : env.blockKind = .function := by unfold PySem.Env.blockKind; rw [hk]; rfl
  have st : ∀ e : Expr, isStar e = false → ¬ ((match e with | .Starred _ _ => true | _ => false) = true) := by
    intro e he
    cases e <;> first | exact Bool.false_ne_true | cases he
  unfold swap2 at h
  split at h
  · rename_i x px y py a b
    simp only [Bool.and_eq_true, Bool.not_eq_true', decide_eq_true_eq] at h
    obtain ⟨⟨⟨⟨⟨⟨⟨h1, h2⟩, h3⟩, h4⟩, h5⟩, h6⟩, h7⟩, h8⟩ := h
    have h1 : env.scope.names.lookup x = some .local := by simpa using h1
    have h2 : env.scope.names.lookup y = some .local := by simpa using h2
    refine .inl ⟨x, px, y, py, a, b, rfl, rfl, h1, h2, ?_⟩
    have kx : env.kindOf x = some .local := h1
    have ky : env.kindOf y = some .local := h2
    unfold swappedStores
    simp [hb, kx, ky, h3, h4, h7, h8, Expr.pos, List.eraseDups]
    rw [if_neg fun z => z.elim (st a h5) (st b h6)]
    rw [if_pos]
    have hyx : (y == x) = false := by simpa using Ne.symm h4
    simp [List.eraseDupsBy, List.eraseDupsBy.loop, hyx]
  · rename_i x px y py z pz a b c
    simp only [Bool.and_eq_true, Bool.not_eq_true', decide_eq_true_eq] at h
    obtain ⟨⟨⟨⟨⟨⟨⟨⟨⟨⟨⟨⟨h1, h2⟩, h3⟩, h4⟩, h5⟩, h6⟩, h7⟩, h8⟩, s1⟩, s2⟩, s3⟩, f1⟩, f2⟩ := h
    have h1 : env.scope.names.lookup x = some .local := by simpa using h1
    have h2 : env.scope.names.lookup y = some .local := by simpa using h2
    have h3 : env.scope.names.lookup z = some .local := by simpa using h3
    refine .inr ⟨x, px, y, py, z, pz, a, b, c, rfl, rfl, h1, h2, h3, ?_⟩
    have kx : env.kindOf x = some .local := h1
    have ky : env.kindOf y = some .local := h2
    have kz : env.kindOf z = some .local := h3
    unfold swappedStores
    simp [hb, kx, ky, kz, ← h4, ← h5, f1, f2, Expr.pos, List.eraseDups]
    rw [if_neg fun q => q.elim (st a s1) fun q => q.elim (st b s2) (st c s3)]
    rw [if_pos]
    have e1 : (y == x) = false := by simpa using Ne.symm h6
    have e2 : (z == x) = false := by simpa using Ne.symm h7
    have e3 : (z == y) = false := by simpa using Ne.symm h8
    simp [List.eraseDupsBy, List.eraseDupsBy.loop, e1, e2, e3]
  · cases h
end
end G
end
section
set_option maxRecDepth 10000
/-! The rest of the statements' readings. -/
namespace G
open PySem L2
section
variable {C : Cn} {fi : FI} {k : Nat} {W : WX} {X : Cx} {Γx Γ Γ1 : List SK} {r : Option (List SK)}
/-- what the names' storing comes to -/
theorem par_fin {ts : List (Nat × Bool)} {es : CEs} {ks : List Kd} {Z Z1 : Addr → Prop} {H H1 : Hp} {s s1 : Sg} {c : St} {Df : Ends} {ds : List D} {vs : List V} (hk : parK ts ks = true) (hg : ∀ p ∈ ts, p.1 ∉ fi.L ∧ p.1 < Γ.length)
    (env : Env C.K Z H Γ s c) (p : PostE C.K Z H Γ c s1 Z1 H1) (kv : KVs C.K H Γ c s1 Z1 H1 ks ds vs) (nd : (nwA ks vs).Nodup) (q : endS C W fi Γx Γ (some (parG ts Γ)) Z H c Df (.nx (parSet ts ds s1))) :
    vs.length = ts.length ∧ Df.nx (parC ts vs c) H1 ∧ ∀ T, H1 T = none → Df.nx (parC ts vs c) (upd H1 T (.tup vs)) := by
  obtain ⟨Z2, z1, z2, z3, z4, z5, pit⟩ := par_go p.env hk kv nd
  have zo : ∀ a, Z2 a → ¬ Own Γ c a := fun a h => by
    rcases z2 a h with h | h
    · exact fun w => (p.env.own w).1 h
    · exact (z3 a h).2.2.1
  have e2 : Env C.K Z2 H1 Γ s1 c := p.env.grow z1 (fun a h => by
    rcases z2 a h with h | h
    · exact p.env.zd a h
    · exact (z3 a h).2.1) zo
  have main : ∀ (H2 : Hp), (∀ a o, H1 a = some o → H2 a = some o) → Df.nx (parC ts vs c) H2 := fun H2 st => by
    have e3 : Env C.K Z2 H2 Γ s1 c := e2.more (fun _ h => h) (fun _ h => .inl h) (fun a h => by
      cases q0 : H1 a with
      | none => exact absurd q0 (e2.zd a h)
      | some o => rw [st a o q0]; exact fun z => nomatch z) st
    have m : Mono Z2 H1 Z2 H2 := ⟨fun _ h => h, fun a o h _ => st a o h⟩
    have pit2 : PIt C.K Z2 H2 ts ds vs := by
      have go : ∀ (ts : List (Nat × Bool)) (ds : List D) (vs : List V), PIt C.K Z2 H1 ts ds vs → PIt C.K Z2 H2 ts ds vs := by
        intro ts
        induction ts with
        | nil => intro ds vs h; exact h
        | cons t ts ih =>
          obtain ⟨i, o⟩ := t
          rintro ds vs ⟨d, dr, v, vr, e1, e2, h1, h2⟩
          refine ⟨d, dr, v, vr, e1, e2, ?_, ih _ _ h2⟩
          cases o with
          | false =>
            rw [if_neg Bool.false_ne_true] at h1 ⊢
            exact Rp.mono m _ _ h1
          | true =>
            rw [if_pos rfl] at h1 ⊢
            obtain ⟨a, x1, x2, x3⟩ := h1
            obtain ⟨u, hu, _⟩ := x3.at
            exact ⟨a, x1, x2, x3.mono m ((st a u hu).trans hu.symm)⟩
      exact go _ _ _ pit
    obtain ⟨r1, r2, r3⟩ := par_env e3 pit2 z5 (fun a ha => (z3 a (z4 a ha).1).2.2.1) (fun p hp => (hg p hp).2)
    obtain ⟨G2, eq, q⟩ := q
    cases eq
    refine q _ _ Z2 ⟨fun a h => z1 a (p.zz a h), fun a h => ?_, fun a o h w => st a o (p.pr a o h w), fun a h => ?_, r1, fun j hj => r3 j fun hm => ?_⟩
    · rcases z2 a h with h | h
      · exact (p.zn a h).imp id .inl
      · exact .inr (.inl (z3 a h).1)
    · rcases r2 a h with h | h
      · exact .inl h
      · exact .inr (z3 a (z4 a h).1).1
    · obtain ⟨t, ht, rfl⟩ := List.mem_map.mp hm
      exact (hg t ht).1 hj
  refine ⟨pit.len, main H1 (fun _ _ h => h), fun T hT => main _ (fun a o h => ?_)⟩
  rw [upd_ne fun z => by rw [z, hT] at h; cases h]
  exact h
theorem no_swap {env : PySem.Env} {ts vs : List Expr} {k0 k1 : Nat} {p0 p1 : Pos} (h : (ts.any (fun e => match e with
    | .Name x _ => env.scope.names.lookup x != some .local
    | _ => true) || vs.all (foldedForSure 8)) = true) : swappedStores [.Tuple ts k0 p0] (.Tuple vs k1 p1) env = pure none := by
  have full : ∀ (f : Expr → Option Str) (l : List Expr), (l.filterMap f).length = l.length → ∀ e ∈ l, (f e).isSome = true := by
    intro f l
    induction l with
    | nil => intro _ e he; cases he
    | cons x l ih =>
      intro hl e he
      have le : (l.filterMap f).length ≤ l.length := List.length_filterMap_le _ _
      cases hx : f x with
      | none =>
        rw [List.filterMap_cons_none hx, List.length_cons] at hl
        omega
      | some y =>
        rw [List.filterMap_cons_some hx, List.length_cons, List.length_cons] at hl
        rcases List.mem_cons.mp he with q | q
        · rw [q, hx]; rfl
        · exact ih (by omega) e q
  unfold swappedStores
  simp only []
  split
  · rfl
  · split
    · rfl
    · split
      · rfl
      · rename_i hlen
        split
        · rfl
        · rename_i hfold
          exfalso
          rw [Bool.or_eq_true] at h
          rcases h with h | h
          · rw [List.any_eq_true] at h
            obtain ⟨e, he, h⟩ := h
            have hlen2 := hlen
            rw [Bool.or_eq_true, not_or] at hlen2
            have l1 := hlen2.1
            rw [bne_iff_ne, ne_eq, Decidable.not_not] at l1
            have := full _ ts l1 e he
            cases e with
            | Name x p =>
              have h : (env.scope.names.lookup x != some .local) = true := h
              have this : (if (env.kindOf x == some .local && p.line == (Option.map (fun x => x.pos.line) ts.head?).getD 0) = true then some x else none).isSome = true := this
              split at this
              · rename_i h2
                rw [Bool.and_eq_true] at h2
                have : env.scope.names.lookup x = some .local := by
                  have z : (env.kindOf x == some .local) = true := h2.1
                  exact eq_of_beq z
                rw [this] at h
                simp at h
              · cases this
            | _ => cases this
          · exact hfold h
theorem parT_tg : ∀ {ts : List (Nat × Bool)} {es : List Expr}, parT fi.N fi.sc ts es = true → ckTgs fi.N fi.sc (ts.map fun p => .name p.1) es = true ∧ es.length = ts.length ∧ noStar es = true
  | [], [], _ => ⟨rfl, rfl, rfl⟩
  | (i, o) :: ts, e :: es, h => by
    cases e with
    | Name x p =>
      have h : (decide (fi.N[i]? = some x) && locB fi.sc x && parT fi.N fi.sc ts es) = true := h
      rw [Bool.and_eq_true] at h
      obtain ⟨h1, h2, h3⟩ := parT_tg h.2
      refine ⟨?_, by rw [List.length_cons, List.length_cons, h2], h3⟩
      show (true && (decide (fi.N[i]? = some x) && locB fi.sc x) && ckTgs fi.N fi.sc (ts.map fun p => .name p.1) es) = true
      rw [h.1, h1]; rfl
    | _ => cases h
  | [], _ :: _, h => by cases h
  | (_, _) :: _, [], h => by cases h
theorem par_sound (hS : SOk C fi k W X) {ts : List (Nat × Bool)} {es : CEs} {ks : List Kd} {tts vs : List Expr} {k0 k1 : Nat} {p0 p1 pos : Pos} (ok : OkEs C k es) (hck : ckEs fi.N fi.sc Γ es vs = some ks) (hk : parK ts ks = true) (hw : wkB Γ Γx = true) (hT : parT fi.N fi.sc ts tts = true)
    (hg : ∀ p ∈ ts, p.1 ∉ fi.L ∧ p.1 < Γ.length) (hnd : (ts.map (·.1)).Nodup) (h8 : ts.length ≤ 8) (hsw : swap2 fi.sc tts vs = true ∨ noSwap fi.sc (.Tuple tts 0 ⟨0, 0, 0, 0⟩) (.Tuple vs 0 ⟨0, 0, 0, 0⟩) = true) :
    PS X (.Assign [.Tuple tts k0 p0] (.Tuple vs k1 p1) pos) (tS C W fi Γx Γ (some (parG ts Γ)) (.par ts es)) := by
  have hX := hS.x
  obtain ⟨tsx, q1, q2, q3⟩ := evEs_sound es hX ok hck
  obtain ⟨g1, g2, g3⟩ := parT_tg hT
  by_cases hsw2 : swap2 fi.sc tts vs = true
  · have hsw2' : swap2 X.env.scope tts vs = true := by rw [← hX.sc]; exact hsw2
    rcases swap2_ok (k0 := k0) (k1 := k1) (p0 := p0) (p1 := p1) hS.kd hsw2' with ⟨x, px, y, py, a, b, rfl, rfl, hx, hy, hst⟩ | ⟨x, px, y, py, z, pz, a, b, c, rfl, rfl, hx, hy, hz, hst⟩
    · match ts, hT, hnd, hg, hk with
      | [(i, oi), (j, oj)], hT, hnd, hg, hk =>
        have hT : (decide (fi.N[i]? = some x) && locB fi.sc x && (decide (fi.N[j]? = some y) && locB fi.sc y && true)) = true := hT
        simp only [Bool.and_eq_true, decide_eq_true_eq] at hT
        have hij : i ≠ j := by
          have : i ∉ [j] := (List.nodup_cons.mp hnd).1
          simpa using this
        refine PS.weak (ps_par hX.calm hX.nd (by rw [← hX.N]; exact hT.1.1) (by rw [← hX.N]; exact hT.2.1.1) hij hx hy (q1.pa q2) hst) fun D c H => ?_
        rintro ⟨Z, s, env, q⟩
        refine q3 c H _ (stL_read (f := fun ds s1 => .nx (parSet [(i, oi), (j, oj)] ds s1)) hw env q fun ds s1 e1 vs' H1 Z1 p kv nd q => ?_)
        obtain ⟨f1, f2, _⟩ := par_fin (es := es) hk hg env p kv nd q
        match vs', f1, f2 with
        | [v, w], _, f2 => exact ⟨v, w, rfl, f2⟩
      | [], hT, _, _, _ => cases hT
      | [(_, _)], hT, _, _, _ =>
        have hT : (_ && _ && false) = true := hT
        rw [Bool.and_false] at hT
        cases hT
      | (_, _) :: (_, _) :: (_, _) :: _, hT, _, _, _ =>
        have hT : (_ && _ && (_ && _ && false)) = true := hT
        simp at hT
    · match ts, hT, hnd, hg, hk with
      | [(i, oi), (j, oj), (l, ol)], hT, hnd, hg, hk =>
        have hT : (decide (fi.N[i]? = some x) && locB fi.sc x && (decide (fi.N[j]? = some y) && locB fi.sc y && (decide (fi.N[l]? = some z) && locB fi.sc z && true))) = true := hT
        simp only [Bool.and_eq_true, decide_eq_true_eq] at hT
        have n1 : i ∉ [j, l] := (List.nodup_cons.mp hnd).1
        have n2 : j ∉ [l] := (List.nodup_cons.mp (List.nodup_cons.mp hnd).2).1
        simp only [List.mem_cons, List.not_mem_nil, or_false, not_or] at n1 n2
        refine PS.weak (ps_par3 hX.calm hX.nd (by rw [← hX.N]; exact hT.1.1) (by rw [← hX.N]; exact hT.2.1.1) (by rw [← hX.N]; exact hT.2.2.1.1) n1.1 n1.2 n2 hx hy hz (q1.pa q2) hst) fun D c H => ?_
        rintro ⟨Z, s, env, q⟩
        refine q3 c H _ (stL_read (f := fun ds s1 => .nx (parSet [(i, oi), (j, oj), (l, ol)] ds s1)) hw env q fun ds s1 e1 vs' H1 Z1 p kv nd q => ?_)
        obtain ⟨f1, f2, _⟩ := par_fin (es := es) hk hg env p kv nd q
        match vs', f1, f2 with
        | [u, v, w], _, f2 => exact ⟨u, v, w, rfl, f2⟩
      | [], hT, _, _, _ => cases hT
      | [(_, _)], hT, _, _, _ =>
        have hT : (_ && _ && false) = true := hT
        rw [Bool.and_false] at hT
        cases hT
      | [(_, _), (_, _)], hT, _, _, _ =>
        have hT : (_ && _ && (_ && _ && false)) = true := hT
        simp at hT
      | (_, _) :: (_, _) :: (_, _) :: (_, _) :: _, hT, _, _, _ =>
        have hT : (_ && _ && (_ && _ && (_ && _ && false))) = true := hT
        simp at hT
  · have hns : noSwap fi.sc (.Tuple tts 0 ⟨0, 0, 0, 0⟩) (.Tuple vs 0 ⟨0, 0, 0, 0⟩) = true := hsw.elim (fun z => absurd z hsw2) id
    have hst : swappedStores [.Tuple tts k0 p0] (.Tuple vs k1 p1) X.env = pure none := no_swap (by rw [← hX.sc]; exact hns)
    have htg := tg_sound hX.N hX.nd hX.calm (stores_def hS) (.tup (ts.map fun p => .name p.1)) (.Tuple tts k0 p0) (show ckTgs _ _ _ _ = true from g1)
    refine PS.weak (ps_asg (pe_tup (q1.pa q2)) htg rfl hst rfl) fun D c H => ?_
    rintro ⟨Z, s, env, q⟩
    refine q3 c H _ (stL_read (f := fun ds s1 => .nx (parSet ts ds s1)) hw env q fun ds s1 e1 vs' H1 Z1 p kv nd q => ?_)
    obtain ⟨f1, f2, f3⟩ := par_fin (es := es) hk hg env p kv nd q
    refine ⟨by rw [f1, sizeLine_eq]; omega, fun T hT2 => .inl ⟨T, vs', rfl, .of upd_same, by rw [f1, List.length_map], par_gs f1 (f3 T hT2)⟩⟩
end
end G
end
section
set_option maxRecDepth 10000
/-! Items stored, methods, loops, try, return, raise. -/
namespace G
open PySem L2
theorem PSet.or {X : Cx} {t u : TSet} (h : PSet X t) (h' : PSet X u) : PSet X (fun o i v H Q => t o i v H Q ∨ u o i v H Q) := fun pins s σ H o i v ov iv w Q I r1 r2 r3 q => q.elim (h pins s σ H o i v ov iv w Q I r1 r2 r3) (h' pins s σ H o i v ov iv w Q I r1 r2 r3)
/-! ### dicts, here and there -/
theorem RpK.any {K : PySem.W.Frag} {Z : Addr → Prop} {H : Hp} {k : Ky} : ∀ {ds : List (Ky × D)} {ks : List (Ky × V)}, RpK K Z H ds ks → (ds.any fun p => decide (p.1 = k)) = ks.any fun p => decide (p.1 = k)
  | [], _, h => by rw [show _ = [] from h]; rfl
  | (j, d) :: ds, _, ⟨v, r, e, _, h⟩ => by rw [e, List.any_cons, List.any_cons, RpK.any h]
theorem RpK.append {K : PySem.W.Frag} {Z : Addr → Prop} {H : Hp} : ∀ {ds es : List (Ky × D)} {ks ls : List (Ky × V)}, RpK K Z H ds ks → RpK K Z H es ls → RpK K Z H (ds ++ es) (ks ++ ls)
  | [], _, _, _, h, h' => by rw [show _ = [] from h]; exact h'
  | (j, d) :: ds, es, _, ls, ⟨v, r, e, h1, h⟩, h' => by subst e; exact ⟨v, r ++ ls, rfl, h1, RpK.append h h'⟩
theorem RpK.map {K : PySem.W.Frag} {Z : Addr → Prop} {H : Hp} {k : Ky} {x : D} {w : V} (rx : Rp K Z H x w) : ∀ {ds : List (Ky × D)} {ks : List (Ky × V)}, RpK K Z H ds ks → RpK K Z H (ds.map fun p => if p.1 = k then (p.1, x) else p) (ks.map fun p => if p.1 = k then (p.1, w) else p)
  | [], _, h => by rw [show _ = [] from h]; rfl
  | (j, d) :: ds, _, ⟨v, r, e, h1, h⟩ => by
    subst e
    rw [List.map_cons, List.map_cons]
    by_cases hj : j = k
    · rw [if_pos hj, if_pos hj]
      exact ⟨w, _, rfl, rx, RpK.map rx h⟩
    · rw [if_neg hj, if_neg hj]
      exact ⟨v, _, rfl, h1, RpK.map rx h⟩
theorem RpK.put {K : PySem.W.Frag} {Z : Addr → Prop} {H : Hp} {k : Ky} {x : D} {w : V} {ds : List (Ky × D)} {ks : List (Ky × V)} (h : RpK K Z H ds ks) (rx : Rp K Z H x w) : RpK K Z H (putK k x ds) (L2.putK ks k w) := by
  unfold G.putK L2.putK
  rw [h.any (k := k)]
  split
  · exact RpK.map rx h
  · exact RpK.append h ⟨w, [], rfl, rx, rfl⟩
theorem RpT.any {K : PySem.W.Frag} {Z : Addr → Prop} {H : Hp} {k : List Ky} : ∀ {ds : List (List Ky × D)} {ks : List (List Ky × V)}, RpT K Z H ds ks → (ds.any fun p => decide (p.1 = k)) = ks.any fun p => decide (p.1 = k)
  | [], _, h => by rw [show _ = [] from h]; rfl
  | (j, d) :: ds, _, ⟨v, r, e, _, h⟩ => by rw [e, List.any_cons, List.any_cons, RpT.any h]
theorem RpT.append {K : PySem.W.Frag} {Z : Addr → Prop} {H : Hp} : ∀ {ds es : List (List Ky × D)} {ks ls : List (List Ky × V)}, RpT K Z H ds ks → RpT K Z H es ls → RpT K Z H (ds ++ es) (ks ++ ls)
  | [], _, _, _, h, h' => by rw [show _ = [] from h]; exact h'
  | (j, d) :: ds, es, _, ls, ⟨v, r, e, h1, h⟩, h' => by subst e; exact ⟨v, r ++ ls, rfl, h1, RpT.append h h'⟩
theorem RpT.map {K : PySem.W.Frag} {Z : Addr → Prop} {H : Hp} {k : List Ky} {x : D} {w : V} (rx : Rp K Z H x w) : ∀ {ds : List (List Ky × D)} {ks : List (List Ky × V)}, RpT K Z H ds ks → RpT K Z H (ds.map fun p => if p.1 = k then (p.1, x) else p) (ks.map fun p => if p.1 = k then (p.1, w) else p)
  | [], _, h => by rw [show _ = [] from h]; rfl
  | (j, d) :: ds, _, ⟨v, r, e, h1, h⟩ => by
    subst e
    rw [List.map_cons, List.map_cons]
    by_cases hj : j = k
    · rw [if_pos hj, if_pos hj]
      exact ⟨w, _, rfl, rx, RpT.map rx h⟩
    · rw [if_neg hj, if_neg hj]
      exact ⟨v, _, rfl, h1, RpT.map rx h⟩
theorem RpT.put {K : PySem.W.Frag} {Z : Addr → Prop} {H : Hp} {k : List Ky} {x : D} {w : V} {ds : List (List Ky × D)} {ks : List (List Ky × V)} (h : RpT K Z H ds ks) (rx : Rp K Z H x w) : RpT K Z H (putK k x ds) (L2.putK ks k w) := by
  unfold G.putK L2.putK
  rw [h.any (k := k)]
  split
  · exact RpT.map rx h
  · exact RpT.append h ⟨w, [], rfl, rx, rfl⟩
theorem RpK.length {K : PySem.W.Frag} {Z : Addr → Prop} {H : Hp} {ds : List (Ky × D)} {ks : List (Ky × V)} (h : RpK K Z H ds ks) : ds.length = ks.length := by
  have := congrArg List.length h.len
  rwa [List.length_map, List.length_map] at this
theorem RpT.length {K : PySem.W.Frag} {Z : Addr → Prop} {H : Hp} {ds : List (List Ky × D)} {ks : List (List Ky × V)} (h : RpT K Z H ds ks) : ds.length = ks.length := by
  have := congrArg List.length h.len
  rwa [List.length_map, List.length_map] at this
/-- a key, here and there -/
theorem keyOf_ok {K : PySem.W.Frag} {Z : Addr → Prop} {H : Hp} {d : D} {k : Ky} {v : V} (h : keyOf d = some k) (r : Rp K Z H d v) : v = kV k := by
  cases d with
  | int i => cases h; exact r
  | str x => cases h; exact r
  | _ => cases h
theorem keysT_ok {K : PySem.W.Frag} {Z : Addr → Prop} {H : Hp} : ∀ {ds : List D} {ks : List Ky} {vs : List V}, keysT ds = some ks → RpL K Z H ds vs → vs = ks.map kV
  | [], ks, vs, h, r => by cases h; exact r
  | d :: ds, ks, vs, h, ⟨v, vr, e, r1, r2⟩ => by
    have h : (match keyOf d, keysT ds with
      | some k, some ks => some (k :: ks)
      | _, _ => none) = some ks := h
    cases e1 : keyOf d with
    | none => rw [e1] at h; cases h
    | some k =>
      cases e2 : keysT ds with
      | none => rw [e1, e2] at h; cases h
      | some kr =>
        rw [e1, e2] at h
        cases h
        rw [e, List.map_cons, keyOf_ok e1 r1, keysT_ok e2 r2]
theorem tupKey_ok {K : PySem.W.Frag} {Z : Addr → Prop} {H : Hp} {d : D} {k : List Ky} {v : V} (h : tupKey d = some k) (r : Rp K Z H d v) : ∃ b, v = .ref b ∧ H b = some (.tup (k.map kV)) := by
  cases d with
  | wtp ds =>
    obtain ⟨a, xs, e, h1, h2⟩ := r
    exact ⟨a, e, by rw [h1, keysT_ok h h2]⟩
  | _ => cases h
theorem ixN_of {n : Nat} {i : Int} (h0 : 0 ≤ i) (h1 : i.toNat < n) : ixN n i = some i.toNat := by
  unfold ixN
  rw [if_pos h0, if_pos (by omega)]
theorem ixN_neg {n : Nat} {i : Int} (h0 : ¬ 0 ≤ i) (h1 : ¬ (i + n) < 0) : ixN n i = some (i + n).toNat := by
  unfold ixN
  rw [if_neg h0, if_pos (by omega)]
section
variable {C : Cn} {fi : FI} {k : Nat} {W : WX} {X : Cx} {Γx Γ Γ1 : List SK} {r : Option (List SK)}
/-- o[i] = v changes the list or dict at a as told -/
theorem setAt_ok {K : PySem.W.Frag} {Z : Addr → Prop} {H : Hp} {s : Sg} {c : St} {i : Nat} {a : Addr} {o k1 x y : D} {kv xv : V} {Q : Hp → Prop} (env : Env K Z H Γ s c) (hi : Γ[i]? = some .ow) (hc : c[i]? = some (some (.ref a))) (ho : gt s i = o) (rk : Rp K Z H k1 kv) (rx : Rp K Z H x xv)
    (h : setAt o k1 x = some y) (q : ∀ H', PostE K Z H Γ c (s.set i y) Z H' → Q H') : rSetL (.ref a) kv xv H Q ∨ rSetD (.ref a) kv xv H Q := by
  obtain ⟨b, e1, _, t⟩ := env.ow i hi
  rw [hc] at e1; cases e1
  rw [ho] at t
  cases o with
  | lst ds =>
    obtain ⟨xs, h1, h2⟩ := t
    cases k1 with
    | int n =>
      have hk : kv = .int n := rk
      subst hk
      have fin : ∀ j, ixN xs.length n = some j → y = .lst (ds.set j x) → rSetL (.ref a) (.int n) xv H Q := fun j hj hy => by
        refine ⟨a, xs, n, j, rfl, rfl, h1, hj, q _ ?_⟩
        have m := env.monoW (o := .lst (xs.set j xv)) hi hc
        rw [hy]
        exact env.write hi hc ⟨_, upd_same, RpL.mono m _ _ (h2.set j rx)⟩
      have h : (if 0 ≤ n then (if n.toNat < ds.length then some (D.lst (ds.set n.toNat x)) else none) else (if (n + ds.length) < 0 then none else some (.lst (ds.set (n + ds.length).toNat x)))) = some y := h
      refine .inl ?_
      by_cases h0 : 0 ≤ n
      · rw [if_pos h0] at h
        split at h
        · rename_i h3
          cases h
          exact fin _ (ixN_of h0 (by rw [← h2.len]; exact h3)) rfl
        · cases h
      · rw [if_neg h0] at h
        split at h
        · cases h
        · rename_i h3
          cases h
          exact fin _ (by rw [← h2.len]; exact ixN_neg h0 h3) rfl
    | _ => cases h
  | dk ds =>
    obtain ⟨ks, h1, h2⟩ := t
    have h : (match keyOf k1 with
      | some k => if ds.length < sizeLine then some (D.dk (putK k x ds)) else none
      | none => none) = some y := by cases k1 <;> exact h
    cases e : keyOf k1 with
    | none => rw [e] at h; cases h
    | some k =>
      rw [e] at h
      dsimp only at h
      split at h
      · rename_i hz
        cases h
        refine .inr ⟨a, _, rfl, by rw [keyOf_ok e rk]; exact DPut.k h1 (by rw [← h2.length]; exact hz), q _ ?_⟩
        have m := env.monoW (o := .dK (L2.putK ks k xv)) hi hc
        exact env.write hi hc ⟨_, upd_same, RpK.mono m _ _ (h2.put rx)⟩
      · cases h
  | dt ds =>
    obtain ⟨ks, h1, h2⟩ := t
    have h : (match tupKey k1 with
      | some k => if ds.length < sizeLine then some (D.dt (putK k x ds)) else none
      | none => none) = some y := by cases k1 <;> exact h
    cases e : tupKey k1 with
    | none => rw [e] at h; cases h
    | some k =>
      rw [e] at h
      dsimp only at h
      split at h
      · rename_i hz
        cases h
        obtain ⟨b, rfl, hb⟩ := tupKey_ok e rk
        refine .inr ⟨a, _, rfl, DPut.t h1 hb (by rw [← h2.length]; exact hz), q _ ?_⟩
        have m := env.monoW (o := .dT (L2.putK ks k xv)) hi hc
        exact env.write hi hc ⟨_, upd_same, RpT.mono m _ _ (h2.put rx)⟩
      · cases h
  | _ => exact t.elim
theorem setIt_sound (hS : SOk C fi k W X) {e ix : CE} {v ixe : Expr} {kd : Kd} {i : Nat} {x : Str} {p0 p1 pos : Pos} (ok : OkE C k e) (okx : OkE C k ix) (h : ckE fi.N fi.sc Γ e v = some kd) (hk : kd.firm = true) (hx : ckE fi.N fi.sc Γ ix ixe = some .fz) (hw : wkB Γ Γx = true)
    (hv : (decide (fi.N[i]? = some x) && visB fi.sc x && plainName x) = true) (hi : Γ[i]? = some .ow) (hpi : plainIx ixe = true) : PS X (.Assign [.Subscript (.Name x p0) ixe p1] v pos) (tS C W fi Γx Γ (some Γ) (.setIt i ix e)) := by
  have hX := hS.x
  have pv := var_raw hX hv (pos := p0)
  have ha : ∀ u, assign (.Subscript (.Name x p0) ixe p1) X.env u = (do
      let ov ← holding [u] (eval (.Name x p0) X.env)
      let iv ← holding [u, ov] (eval ixe X.env)
      standAt p1
      holding [u, ov, iv] (setItem ov iv u)
      release [u, ov, iv] []) := by
    intro u
    cases ixe <;> first | rfl | cases hpi
  have hsw : swapsWithSole [.Subscript (.Name x p0) ixe p1] v pos.line X.env = pure false := by cases v <;> rfl
  refine PS.weak (ps_asg (evE_sound e hX ok h) (pg_sub pv (evE_sound ix hX okx hx) (PSet.or set_list (set_dict (by have := hX.room.units; omega))) ha) hsw rfl) fun D c H => ?_
  rintro ⟨Z, s, env, q⟩
  refine st_read (f := fun v s1 => (evE ix s1).st fun k s2 => onSlot i s2 (setAt (gt s2 i) k v)) hw env q fun d s1 e1 v H1 Z1 p kv q => ?_
  obtain ⟨Z2, p2, rr⟩ := give_post hk p kv
  obtain ⟨a, c1, _, _⟩ := p2.env.ow i hi
  refine ⟨_, c1, ?_⟩
  refine st_read (f := fun k s2 => onSlot i s2 (setAt (gt s2 i) k d)) hw p2.env (q.from_ p2.toS) fun k2 s2 e2 kv2 H2 Z3 p3 rk q => ?_
  have rr2 : Rp C.K Z3 H2 d v := Rp.mono (p3.mono p2.env) _ _ rr
  cases e3 : setAt (gt s2 i) k2 d with
  | none => rw [e3] at q; exact q.elim
  | some y =>
    rw [e3] at q
    refine setAt_ok p3.env hi c1 rfl rk rr2 e3 fun H3 p4 => ?_
    obtain ⟨G2, eq, q⟩ := q
    cases eq
    exact q c H3 Z3 ((p3.trans p2.env p4).toS)
end
end G
end
section
set_option maxRecDepth 10000
/-! Methods that change a list; if; return; raise; loops; try. -/
namespace G
open PySem L2
section
variable {C : Cn} {fi : FI} {k : Nat} {W : WX} {X : Cx} {Γx Γ Γ1 : List SK} {r : Option (List SK)}
/-- x.m(e) as a statement, x a slot's own list -/
theorem meth_sound {name : Str} {id : String} {T : V → List V → Hp → VK → Prop} {sem : D → D → Option D} {cs : CS} (slot : Slot "list" name id) (hty : typeOf (.builtin id) = pure (.type "method_descriptor")) (hm : ∀ {X : Cx}, MtR X id T)
    (hT : ∀ {K : PySem.W.Frag} {Γ : List SK} {Z : Addr → Prop} {H : Hp} {s : Sg} {c : St} {i : Nat} {a : Addr} {y d : D} {v : V} {Q : VK}, Env K Z H Γ s c → Γ[i]? = some .ow → c[i]? = some (some (.ref a)) → Rp K Z H d v → sem (gt s i) d = some y → (∀ H', PostE K Z H Γ c (s.set i y) Z H' → Q .non H') → T (.ref a) [v] H Q)
    (hS : SOk C fi k W X) {e : CE} {i : Nat} {x : Str} {a : Expr} {p ap cp pos : Pos} {kd : Kd} (hcs : ∀ s, evS cs s = if isLst (gt s i) = true then (evE e s).st fun v s1 => onSlot i s1 (sem (gt s1 i) v) else .stuck)
    (ok : OkE C k e) (hv : (decide (fi.N[i]? = some x) && visB fi.sc x && plainName x) = true) (hi : Γ[i]? = some .ow) (hl : (ap.endLine == cp.line) = true) (hst : isStar a = false) (hw : wkB Γ Γx = true) (h : ckE fi.N fi.sc Γ e a = some kd) (hk : kd.firm = true) :
    PS X (.Expr (.Call (.Attribute (.Name x p) name ap) [a] [] cp) pos) (tS C W fi Γx Γ (some Γ) cs) := by
  have hX := hS.x
  have pv := var_raw hX hv (pos := p)
  have hs := star_no (es := []) (env := X.env) hst
  have pe := evE_sound e hX ok h
  have hc := hX.cn
  subst hc
  refine PS.weak (ps_expr (pe_bm PySem.F.plainAttrs_list slot hty hm pv (pa_cons pe pa_nil hs) rfl (by rw [hs]; rfl) hl hs rfl)) fun D c H => ?_
  rintro ⟨Z, s, env, q⟩
  rw [hcs] at q
  cases hL : isLst (gt s i) with
  | false => rw [hL, if_neg Bool.false_ne_true] at q; exact q.elim
  | true =>
    rw [hL, if_pos rfl] at q
    obtain ⟨xs0, hx0⟩ := isLst_of hL
    obtain ⟨b, vs0, e1, e2, e3⟩ := env.own_lst hi hx0
    refine ⟨_, e1, .inl ⟨rfl, _, .of e2⟩, ?_⟩
    refine st_read hw env q fun d s1 e4 v H1 Z1 p1 kv q => ?_
    obtain ⟨Z2, p2, rr⟩ := give_post hk p1 kv
    cases e5 : sem (gt s1 i) d with
    | none => rw [e5] at q; exact q.elim
    | some y =>
      rw [e5] at q
      refine hT p2.env hi e1 rr e5 fun H' p3 => ?_
      obtain ⟨G2, eq, q⟩ := q
      cases eq
      exact q c H' Z2 ((p2.trans env p3).toS)
theorem app_T {K : PySem.W.Frag} {Γ : List SK} {Z : Addr → Prop} {H : Hp} {s : Sg} {c : St} {i : Nat} {a : Addr} {y d : D} {v : V} {Q : VK} (env : Env K Z H Γ s c) (hi : Γ[i]? = some .ow) (hc : c[i]? = some (some (.ref a))) (rd : Rp K Z H d v) (h : appTo (gt s i) d = some y)
    (q : ∀ H', PostE K Z H Γ c (s.set i y) Z H' → Q .non H') : rAppend (.ref a) [v] H Q := by
  cases hg : gt s i with
  | lst xs =>
    rw [hg] at h
    obtain ⟨b, vs, e1, e2, e3⟩ := env.own_lst hi hg
    rw [hc] at e1; cases e1
    have h : (if xs.length < sizeLine then some (D.lst (xs ++ [d])) else none) = some y := h
    split at h
    · rename_i hz
      cases h
      refine ⟨a, vs, v, rfl, rfl, e2, by rw [← e3.len]; exact hz, q _ (env.write hi hc ⟨_, upd_same, ?_⟩)⟩
      have m := env.monoW (o := .lst (vs ++ [v])) hi hc
      exact RpL.append (RpL.mono m _ _ e3) (.one (Rp.mono m _ _ rd))
    · cases h
  | _ => rw [hg] at h; cases h
theorem ext_T {K : PySem.W.Frag} {Γ : List SK} {Z : Addr → Prop} {H : Hp} {s : Sg} {c : St} {i : Nat} {a : Addr} {y d : D} {v : V} {Q : VK} (env : Env K Z H Γ s c) (hi : Γ[i]? = some .ow) (hc : c[i]? = some (some (.ref a))) (rd : Rp K Z H d v) (h : extTo (gt s i) d = some y)
    (q : ∀ H', PostE K Z H Γ c (s.set i y) Z H' → Q .non H') : rExtend (.ref a) [v] H Q := by
  cases hg : gt s i with
  | lst xs =>
    rw [hg] at h
    obtain ⟨b, vs, e1, e2, e3⟩ := env.own_lst hi hg
    rw [hc] at e1; cases e1
    cases d with
    | lst ys =>
      obtain ⟨b2, ws, rfl, _, f2, f3⟩ := rd
      have h : (if xs.length + ys.length ≤ sizeLine then some (D.lst (xs ++ ys)) else none) = some y := h
      split at h
      · rename_i hz
        cases h
        refine ⟨a, b2, vs, ws, rfl, rfl, e2, f2, by rw [← e3.len, ← f3.len]; exact hz, q _ (env.write hi hc ⟨_, upd_same, ?_⟩)⟩
        have m := env.monoW (o := .lst (vs ++ ws)) hi hc
        exact RpL.append (RpL.mono m _ _ e3) (RpL.mono m _ _ f3)
      · cases h
    | _ => cases h
  | _ => rw [hg] at h; cases h
theorem ints_of : ∀ {xs : List D} {ns : List Int}, xs.mapM isInt = some ns → xs = ns.map .int
  | [], ns, h => by
    simp at h
    rw [h]; rfl
  | x :: xs, ns, h => by
    rw [List.mapM_cons] at h
    cases hx : isInt x with
    | none => rw [hx] at h; cases h
    | some n =>
      rw [hx] at h
      cases hr : xs.mapM isInt with
      | none => rw [hr] at h; cases h
      | some nr =>
        rw [hr] at h
        have h : some (n :: nr) = some ns := h
        cases h
        have : x = .int n := by cases x <;> first | (cases hx; rfl) | cases hx
        rw [List.map_cons, this, ints_of hr]
theorem RpL.ints {K : PySem.W.Frag} {Z : Addr → Prop} {H : Hp} : ∀ {ns : List Int} {vs : List V}, RpL K Z H (ns.map .int) vs → vs = ns.map V.int
  | [], _, h => h
  | n :: ns, _, ⟨v, r, e, h1, h2⟩ => by
    have h1 : v = .int n := h1
    rw [e, h1, RpL.ints h2]; rfl
theorem RpL.ofInts {K : PySem.W.Frag} {Z : Addr → Prop} {H : Hp} : ∀ ns : List Int, RpL K Z H (ns.map .int) (ns.map V.int)
  | [] => rfl
  | n :: ns => ⟨.int n, _, rfl, rfl, RpL.ofInts ns⟩
theorem rem_T {K : PySem.W.Frag} {Γ : List SK} {Z : Addr → Prop} {H : Hp} {s : Sg} {c : St} {i : Nat} {a : Addr} {y d : D} {v : V} {Q : VK} (env : Env K Z H Γ s c) (hi : Γ[i]? = some .ow) (hc : c[i]? = some (some (.ref a))) (rd : Rp K Z H d v) (h : remFrom (gt s i) d = some y)
    (q : ∀ H', PostE K Z H Γ c (s.set i y) Z H' → Q .non H') : rRemI (.ref a) [v] H Q := by
  cases hg : gt s i with
  | lst xs =>
    rw [hg] at h
    obtain ⟨b, vs, e1, e2, e3⟩ := env.own_lst hi hg
    rw [hc] at e1; cases e1
    cases d with
    | int n =>
      have hv : v = .int n := rd
      subst hv
      have h : (match xs.mapM isInt with
        | some ns => if n ∈ ns then some (D.lst ((ns.erase n).map .int)) else none
        | none => none) = some y := h
      cases hm : xs.mapM isInt with
      | none => rw [hm] at h; cases h
      | some ns =>
        rw [hm] at h
        dsimp only at h
        split at h
        · rename_i hmem
          cases h
          have hxs := ints_of hm
          subst hxs
          have hvs := e3.ints
          subst hvs
          have hlt : ns.idxOf n < ns.length := List.idxOf_lt_length_iff.mpr hmem
          refine ⟨a, ns, n, ns.idxOf n, rfl, rfl, e2, ?_, fun m hm2 e => ?_, ?_⟩
          · rw [List.getElem?_eq_getElem hlt, List.getElem_idxOf hlt]
          · have := List.not_of_lt_findIdx (p := (· == n)) (xs := ns) (i := m) hm2
            obtain ⟨h5, h6⟩ := List.getElem?_eq_some_iff.mp e
            rw [h6] at this
            simp at this
          · rw [← List.erase_eq_eraseIdx_of_idxOf rfl]
            exact q _ (env.write hi hc ⟨_, upd_same, RpL.ofInts _⟩)
        · cases h
    | _ => cases h
  | _ => rw [hg] at h; cases h
/-! ### value dropped; if; return; raise -/
theorem expr_sound (hS : SOk C fi k W X) {e : CE} {v : Expr} {kd : Kd} {pos : Pos} (ok : OkE C k e) (h : ckE fi.N fi.sc Γ e v = some kd) (hw : wkB Γ Γx = true) (hc : isComp v = false) : PS X (.Expr v pos) (tS C W fi Γx Γ (some Γ) (.expr e)) := by
  refine PS.weak (ps_expr (evE_sound e hS.x ok h) (sw_no hc)) fun D c H => ?_
  rintro ⟨Z, s, env, q⟩
  refine st_read (f := fun _ s1 => .nx s1) hw env q fun d s1 e1 v H1 Z1 p kv q => ?_
  obtain ⟨G2, eq, q⟩ := q
  cases eq
  exact q c H1 Z1 p.toS
theorem iff_sound (hS : SOk C fi k W X) {t : CE} {a b : CSs} {ce : Expr} {ba bb : List Stmt} {ra rb r : Option (List SK)} {g : List SK} {pos : Pos} (ok : OkE C k t) (h : ckT fi.N fi.sc Γ t ce = true) (hw : wkB Γ Γx = true)
    (ha : PSs X ba (tSs C W fi Γx Γ ra a)) (hb : PSs X bb (tSs C W fi Γx Γ rb b)) (ja : ∀ g1, ra = some g1 → ∃ g2, r = some g2 ∧ wkB g1 g2 = true) (jb : ∀ g1, rb = some g1 → ∃ g2, r = some g2 ∧ wkB g1 g2 = true)
    (na : ra = none → ∀ s s1, evSs a s ≠ .nx s1) (nb : rb = none → ∀ s s1, evSs b s ≠ .nx s1) :
    PS X (.If ce ba bb pos) (tS C W fi Γx Γ r (.iff t a b g)) := by
  refine PS.weak (ps_if (evT_sound t hS.x ok h) ha hb) fun D c H => ?_
  rintro ⟨Z, s, env, q⟩
  have conv : ∀ {r1 : Option (List SK)} {Z : Addr → Prop} {H : Hp} {o : SOut}, (∀ g1, r1 = some g1 → ∃ g2, r = some g2 ∧ wkB g1 g2 = true) → (r1 = none → ∀ s1, o ≠ .nx s1) → endS C W fi Γx Γ r Z H c D o → endS C W fi Γx Γ r1 Z H c D o := by
    intro r1 Z H o j n q
    cases o with
    | nx s1 =>
      cases r1 with
      | none => exact absurd rfl (n rfl s1)
      | some g1 =>
        obtain ⟨g2, e2, w⟩ := j g1 rfl
        obtain ⟨G2, eq, q⟩ := q
        rw [e2] at eq; cases eq
        exact ⟨g1, rfl, fun c1 H1 Z1 p => q c1 H1 Z1 (p.weak w)⟩
    | ret d s1 => exact q
    | exc x s1 => exact q
    | stuck => exact q
  refine stT_read (f := fun t s1 => if t = true then evSs a s1 else evSs b s1) hw env q fun t s1 e1 H1 Z1 p q => ?_
  have q := q.from_ p.toS
  cases t with
  | true => exact ⟨Z1, s1, p.env, conv ja (fun n s2 => na n s1 s2) q⟩
  | false => exact ⟨Z1, s1, p.env, conv jb (fun n s2 => nb n s1 s2) q⟩
theorem KV.ret {K : PySem.W.Frag} {L : List Nat} {Z Z1 : Addr → Prop} {H H1 : Hp} {s s1 : Sg} {c : St} {kd : Kd} {d : D} {v : V} (env : Env K Z H Γ s c) (p : PostE K Z H Γ c s1 Z1 H1) (hL : ∀ p ∈ L, p < Γ.length → Γ[p]? = some .ow)
    (hk : (∃ i, kd = .bo i ∧ i ∉ L) ∨ kd = .nw) (kv : KV K kd H Γ c s1 Z1 H1 d v) : KR K true L H Γ c c Z1 H1 d v := by
  unfold KR
  rw [if_pos rfl]
  have low : ∀ p ∈ L, ∀ w, c[p]? = some (some w) → Γ[p]? = some .ow := fun i hi w hw => hL i hi (by
    rw [env.len.2]; exact (List.getElem?_eq_some_iff.mp hw).1)
  rcases hk with ⟨i, rfl, hi⟩ | rfl
  · obtain ⟨h1, h2, rfl⟩ := kv
    obtain ⟨a, e1, e2, e3⟩ := p.env.ow i h1
    rw [h2] at e1; cases e1
    refine ⟨a, rfl, .inl ⟨i, h1, h2⟩, e2, e3, fun j hj e => hi ?_⟩
    rw [env.inj i j a h1 (low j hj _ e) h2 e]; exact hj
  · obtain ⟨a, rfl, h1, h2, h3, h4⟩ := kv
    exact ⟨a, rfl, .inr h1, h2, h4, fun j hj e => h3 ⟨j, low j hj _ e, e⟩⟩
theorem GL_at {fi : FI} {p : Nat} (hp : p ∈ fi.L) (hl : p < fi.GL.length) : fi.GL[p]? = some .ow := by
  unfold FI.GL at hl ⊢
  rw [List.length_map, List.length_range] at hl
  rw [List.getElem?_map, List.getElem?_range hl]
  show some (if p ∈ fi.L then SK.ow else .un) = _
  rw [if_pos hp]
theorem wkB_ow {Γ G : List SK} (h : wkB Γ G = true) {p : Nat} (hg : G[p]? = some .ow) : Γ[p]? = some .ow := by
  rcases (wkB_ok h).2 p with q | q
  · rw [← q]; exact hg
  · rw [hg] at q; cases q
theorem var_bo {N : List Str} {sc : Scope} {Γ : List SK} {i j : Nat} {v : Expr} (h : ckE N sc Γ (.var i) v = some (.bo j)) : j = i := by
  cases v with
  | Name x p =>
    unfold ckE at h
    split at h
    · split at h
      · cases h
      · cases h; rfl
      · cases h
    · cases h
  | _ => cases h
theorem ret_sound (hS : SOk C fi k W X) {e : CE} {v : Expr} {kd : Kd} {pos : Pos} (ok : OkE C k e) (h : ckE fi.N fi.sc Γ e v = some kd) (hw : wkB Γ Γx = true) (hg : wkB Γ fi.GL = true) (hr : retB fi Γ e (some kd) = true) :
    PS X (.Return (some v) pos) (tS C W fi Γx Γ none (.ret e)) := by
  refine PS.weak (ps_ret (evE_sound e hS.x ok h)) fun D c H => ?_
  rintro ⟨Z, s, env, q⟩
  refine st_read (f := fun d s1 => .ret d s1) hw env q fun d s1 e1 v H1 Z1 p kv q => ?_
  have hL : ∀ p ∈ fi.L, p < Γ.length → Γ[p]? = some .ow := fun i hi hl => wkB_ow hg (GL_at hi (by rw [(wkB_ok hg).1]; exact hl))
  have nwc : fi.nw = true → ((∃ i, kd = .bo i ∧ i ∉ fi.L) ∨ kd = .nw) → D.rt v H1 := fun hn hk => q v c H1 Z1 (p.toS.weak hg) (by rw [hn]; exact KV.ret env p hL hk kv)
  have fin : fi.nw = false → kd.firm = true → D.rt v H1 := fun hn hk => by
    obtain ⟨Z2, p2, rr⟩ := give_post hk p kv
    exact q v c H1 Z2 (p2.toS.weak hg) (by rw [hn]; unfold KR; rw [if_neg Bool.false_ne_true]; exact rr)
  have gen : (if fi.nw = true then decide (kd = .nw) else kd.firm) = true → D.rt v H1 := fun hr => by
    cases hn : fi.nw with
    | true =>
      rw [hn, if_pos rfl, decide_eq_true_eq] at hr
      exact nwc hn (.inr hr)
    | false =>
      rw [hn, if_neg Bool.false_ne_true] at hr
      exact fin hn hr
  cases e with
  | var i =>
    cases kd with
    | bo j =>
      have hij : j = i := var_bo h
      have hr : (fi.nw && !decide (i ∈ fi.L)) = true := hr
      rw [Bool.and_eq_true, Bool.not_eq_true', decide_eq_false_iff_not] at hr
      exact nwc hr.1 (.inl ⟨j, rfl, by rw [hij]; exact hr.2⟩)
    | nw => exact gen hr
    | fz => exact gen hr
  | _ => exact gen hr
end
end G
end
section
set_option maxRecDepth 10000
/-! d.update(e), both dicts. -/
namespace G
open PySem L2
section
variable {X : Cx} {o e : Expr} {es : List Expr} {to : TE} {t : TA} {name : Str} {apos cpos : Pos} {T id : String} {r : V → List V → Hp → VK → Prop} {A : V → Hp → Prop}
/-- x is of the built-in type T -/
def Tys (X : Cx) (T : String) (x : V) (H : Hp) : Prop := ∀ (pins : List (Addr × Obj)) (σ : St) (s : Shared) (v : Value), Inv X pins σ H s → RelV x v → s.TypeIs v T ∧ ∀ a, v = .ref a → ∃ ob, s.heap.get? a = some ob ∧ ob.dict = none
theorem pe_bmG (pa : PlainAttrs T) (slot : Slot T name id) (hty : typeOf (.builtin id) = pure (.type "method_descriptor")) (hm : MtR X id r) (ho : PE X o to) (ha : PA X (e :: es) t) (hA : ∀ x H, A x H → Tys X T x H)
    (hbase : attributeBase o name X.env (eval o X.env) = eval o X.env)
    (hfew : ((backTo cpos (starEach (e :: es) X.env)).all (fun x => !x.1) && (backToKw cpos (keywordEach [] X.env)).all (fun x => x.1.isSome)
      && decide ((e :: es).length + ([] : List Keyword).length + (if ([] : List Keyword).isEmpty then 0 else 1) < 30)) = true)
    (hline : (apos.endLine == cpos.line) = true) (hs : starEach (e :: es) X.env = (false, eval e X.env) :: starEach es X.env) (hplain : (backTo cpos (starEach es X.env)).any (·.1) = false) :
    PE X (.Call (.Attribute o name apos) (e :: es) [] cpos) (fun σ H Q => to σ H fun x H1 => A x H1 ∧ t σ H1 fun xs H2 => r x xs H2 Q) := by
  refine ⟨fun pins s σ H Q I h => ?_⟩
  refine wpAny_Call_method_late hbase hfew hline rfl (thn (ho.run pins s σ H _ I h) fun v s1 ⟨x, H1, I1, r1, ty, q1⟩ => ?_)
  obtain ⟨h1, h2⟩ := hA x H1 ty pins σ s1 v I1 r1
  refine ⟨T, id, pa, slot, hty, h1, h2, ?_⟩
  have hA := ha.run cpos pins s1 σ H1 _ I1 q1
  rw [hs] at hA ⊢
  refine Calls.callWith_builtin (by show (false || (backTo cpos (starEach es X.env)).any (·.1)) = false; rw [hplain] <;> rfl) (Calls.evalArgs_plain ?_)
  exact thn hA fun us s2 ⟨vs, H2, I2, r2, q2⟩ => hm pins s2 σ H2 x vs v us Q I2 r1 r2 q2
theorem few_ok (h : noStar (e :: es) = true) (hl : (e :: es).length < 30) : ((backTo cpos (starEach (e :: es) X.env)).all (fun x => !x.1) && (backToKw cpos (keywordEach [] X.env)).all (fun x => x.1.isSome)
      && decide ((e :: es).length + ([] : List Keyword).length + (if ([] : List Keyword).isEmpty then 0 else 1) < 30)) = true := by
  have h1 := noStar_any (es := e :: es) (env := X.env) (pos := cpos) h
  have h2 : (backTo cpos (starEach (e :: es) X.env)).all (fun x => !x.1) = true := by
    rw [List.any_eq_false] at h1
    rw [List.all_eq_true]
    intro x hx
    have := h1 x hx
    simpa using this
  rw [h2]
  have h3 : (backToKw cpos (keywordEach [] X.env)).all (fun x => x.1.isSome) = true := rfl
  rw [h3]
  simp only [Bool.true_and, decide_eq_true_eq]
  show (e :: es).length + 0 + 0 < 30
  omega
end
theorem RpK.merge {K : PySem.W.Frag} {Z : Addr → Prop} {H : Hp} : ∀ {ps : List (Ky × D)} {qs : List (Ky × V)} {ds : List (Ky × D)} {ks : List (Ky × V)}, RpK K Z H ps qs → RpK K Z H ds ks → RpK K Z H (mergeD ds ps) (mergeK ks qs)
  | [], _, _, _, h, h2 => by rw [show _ = [] from h]; exact h2
  | (k, d) :: ps, _, ds, ks, ⟨v, r, e, h1, h2⟩, h3 => by
    subst e
    have := RpK.merge (ds := putK k d ds) (ks := L2.putK ks k v) h2 (h3.put h1)
    exact this
def rUpd : V → List V → Hp → VK → Prop := fun x vs H Q => ∃ (a b : Addr) (ks ms : List (Ky × V)), x = .ref a ∧ vs = [.ref b] ∧ a ≠ b ∧ H a = some (.dK ks) ∧ Rd H b (.dK ms) ∧ ks.length + ms.length ≤ sizeLine ∧ Q .non (upd H a (.dK (mergeK ks ms)))
theorem mergeK_len : ∀ (ms ks : List (Ky × V)), (mergeK ks ms).length ≤ ks.length + ms.length
  | [], ks => Nat.le_refl _
  | m :: ms, ks => by
    have h1 := mergeK_len ms (L2.putK ks m.1 m.2)
    have h2 := length_putK ks m.1 m.2
    show (mergeK (L2.putK ks m.1 m.2) ms).length ≤ _
    rw [List.length_cons]
    omega
theorem mt_update {X : Cx} : MtR X "dict.update" rUpd := by
  intro pins s σ H x xs v us Q I rx rs h
  obtain ⟨a, b, ks, ms, rfl, rfl, hab, ha, hb, hz, q⟩ := h
  obtain rfl : v = .ref a := rx
  obtain ⟨u, rfl, ru⟩ := rs.one
  obtain rfl : u = .ref b := ru
  obtain ⟨z1, s1, vs, r1, d1⟩ := dk_of I.hok ha
  obtain ⟨z2, s2, ws, r2, d2⟩ := dk_rd I.hok hb
  have l1 : ks.length = vs.length := r1.length
  have l2 : ms.length = ws.length := r2.length
  refine call_meetsIn PySem.F.slot_dict_update d1.typeIs PySem.F.entry_dict_update (PySem.F.args_dict_update_2 _ _) (PySem.meets_dict_update (mixKind X.prog X.w) a b hab s2) ⟨vs, ws, d1, d2, by omega, fun h' dd _ hs => ?_⟩
  have he : ∃ q, h'.get? a = some q := let ⟨q, _, _, hq, _⟩ := dd; ⟨q, hq⟩
  have hl := mergeK_len ms ks
  exact ⟨.non, _, d_write (t' := s.toks) I (by rw [ha]; exact True.intro) hs he (dk_new (by omega) s1 (r2.merge r1) dd), rfl, q⟩
theorem isDk_of {d : D} (h : isDk d = true) : ∃ kvs, d = .dk kvs := by cases d <;> first | exact ⟨_, rfl⟩ | cases h
/-- a dict of keys that are whole numbers or texts -/
def IsD' (x : V) (H : Hp) : Prop := ∃ (a : Addr) (ks : List (Ky × V)), x = .ref a ∧ Rd H a (.dK ks)
theorem IsD'.tys {X : Cx} {x : V} {H : Hp} (h : IsD' x H) : Tys X "dict" x H := fun pins σ s v I r => by
  obtain ⟨a, ks, rfl, g⟩ := h
  obtain rfl : v = .ref a := r
  exact ⟨(isD_at I (.inl ⟨ks, g⟩)).1, (isD_at I (.inl ⟨ks, g⟩)).2.1⟩
theorem RpK.len' {K : PySem.W.Frag} {Z : Addr → Prop} {H : Hp} : ∀ {ds : List (Ky × D)} {ks : List (Ky × V)}, RpK K Z H ds ks → ds.length = ks.length
  | [], _, h => by rw [show _ = [] from h]; rfl
  | (k, d) :: r, _, ⟨v, l, e, _, h⟩ => by rw [e, List.length_cons, List.length_cons, RpK.len' h]
section
variable {C : Cn} {fi : FI} {k : Nat} {W : WX} {X : Cx} {Γx Γ Γ1 : List SK} {r : Option (List SK)}
theorem upd_sound (hS : SOk C fi k W X) {e : CE} {i : Nat} {x : Str} {a : Expr} {p ap cp pos : Pos} {kd : Kd}
    (ok : OkE C k e) (hv : (decide (fi.N[i]? = some x) && visB fi.sc x && plainName x) = true) (hi : Γ[i]? = some .ow) (hl : (ap.endLine == cp.line) = true) (hst : isStar a = false) (hw : wkB Γ Γx = true) (h : ckE fi.N fi.sc Γ e a = some kd) (hk : kd.firm = true) :
    PS X (.Expr (.Call (.Attribute (.Name x p) "update" ap) [a] [] cp) pos) (tS C W fi Γx Γ (some Γ) (.upd i e)) := by
  have hX := hS.x
  have pv := var_raw hX hv (pos := p)
  have hs := star_no (es := []) (env := X.env) hst
  have pe := evE_sound e hX ok h
  have hc := hX.cn
  subst hc
  refine PS.weak (ps_expr (pe_bmG (A := fun x H => IsD' x H) PySem.F.plainAttrs_dict PySem.F.slot_dict_update PySem.F.type_dict_update mt_update pv (pa_cons pe pa_nil hs) (fun x H h => h.tys) rfl (few_ok (by show (!isStar a && true) = true; rw [hst]; rfl) (by show 1 < 30; decide)) hl hs rfl)) fun D c H => ?_
  rintro ⟨Z, s, env, q⟩
  have q : endS _ W fi Γx Γ (some Γ) Z H c D (if isDk (gt s i) = true then (evE e s).st fun v s1 => onSlot i s1 (updTo (gt s1 i) v) else .stuck) := q
  cases hL : isDk (gt s i) with
  | false => rw [hL, if_neg Bool.false_ne_true] at q; exact q.elim
  | true =>
    rw [hL, if_pos rfl] at q
    obtain ⟨xs0, hx0⟩ := isDk_of hL
    obtain ⟨b, e1, e2, e3⟩ := env.ow i hi
    have e3' := e3
    rw [hx0] at e3'
    obtain ⟨vs0, f1, f2⟩ := e3'
    refine ⟨_, e1, ⟨b, vs0, rfl, .inl f1⟩, ?_⟩
    refine st_read hw env q fun d s1 e4 v H1 Z1 p1 kv q => ?_
    obtain ⟨Z2, p2, rr⟩ := give_post hk p1 kv
    cases e5 : updTo (gt s1 i) d with
    | none => rw [e5] at q; exact q.elim
    | some y =>
      rw [e5] at q
      obtain ⟨b', g1, g2, g3⟩ := p2.env.ow i hi
      rw [e1] at g1; cases g1
      cases hg : gt s1 i with
      | dk kvs =>
        rw [hg] at g3 e5
        obtain ⟨ks, k1, k2⟩ := g3
        cases d with
        | dk more =>
          obtain ⟨b2, ms, rfl, zb, m1, m2⟩ := rr
          have e5 : (if kvs.length + more.length ≤ sizeLine then some (G.D.dk (mergeD kvs more)) else none) = some y := e5
          split at e5
          · rename_i hz
            cases e5
            have own : Own Γ c b := ⟨i, hi, e1⟩
            have nz := (p2.env.own own).1
            have hab : b ≠ b2 := fun z => nz (by rw [z]; exact zb)
            have l1 : kvs.length = ks.length := RpK.len' k2
            have l2 : more.length = ms.length := RpK.len' m2
            refine ⟨b, b2, ks, ms, rfl, rfl, hab, k1, m1, by omega, ?_⟩
            have m := p2.env.monoW (o := .dK (mergeK ks ms)) hi e1
            have p3 := p2.env.write (d := .dk (mergeD kvs more)) hi e1 ⟨_, upd_same, RpK.merge (RpK.mono m _ _ m2) (RpK.mono m _ _ k2)⟩
            obtain ⟨G2, eq, q⟩ := q
            cases eq
            exact q c _ Z2 ((p2.trans env p3).toS)
          · cases e5
        | _ => cases e5
      | _ => rw [hg] at e5; cases e5
end
end G
end
section
set_option maxRecDepth 10000
/-! raise; loops. -/
namespace G
open PySem L2
/-- the refusal's class stands in the text: an own exception class without own __init__ -/
structure ExF (C : Cn) (x : Ex) : Prop where
  mg : C.mg x.name = some (.ref (xa C.mg x))
  ki : PySem.W.keepIn C.K (.ref (xa C.mg x)) = true
  q : ∃ bmB B newId initId, ExcBaseFacts B newId initId bmB ∧ PySem.W.excIn C.K (xa C.mg x) bmB newId = true
  r1 : PySem.W.subIn C.K (.ref (xa C.mg x)) (.type "BaseException") = some true
  r2 : PySem.W.typeIn C.K (.ref (xa C.mg x)) = some (.type "type")
section
variable {X : Cx} {C : Addr} {bmB : List Value} {B newId initId : String}
theorem pmk_own0 {x : Str} {p pos : Pos} (F : ExcBaseFacts B newId initId bmB) (q : PySem.W.excIn X.K C bmB newId = true) (gC : X.mg x = some (.ref C)) (kC : PySem.W.keepIn X.K (.ref C) = true) (r : Raises X (.ref C)) (hg : Gl X x)
    (hdb : (x == ("__debug__" : Str)) = false := by decide) : PMk X (.Call (.Name x p) [] [] pos) (fun _ H Q => Q (.ref C) none H) := by
  intro pins s σ H Q I h
  refine wpAny_Call_Name_kw (ld_glob I hg gC ?_ hdb)
  refine PySem.W.callWith_K0 I.kIn kC ?_
  show wpAny _ _ (call (.ref C) []) _ _ _
  obtain ⟨bm, N, nm, qn, bs, hdct, sn, sub, ab, col, dd, k0, k1, k2, k3, k5, mN, hC, hN, hni, T⟩ := exc_obj I.kIn q
  refine wpAny_call_exc_subT F T hC hN hni (fun h' e hm => ?_) (Nat.zero_le _)
  exact mk_of I hm r h (I.hok.gone hm.new)
end
section
variable {C : Cn} {fi : FI} {k : Nat} {W : WX} {X : Cx} {Γx Γ Γ1 : List SK} {r : Option (List SK)}
theorem raise_sound (hS : SOk C fi k W X) {x : Ex} {n : Str} {p p1 pos : Pos} (f : ExF C x) (hn : n = x.name) (hg : glB fi.sc n = true) (hp : plainName n = true) (hw : wkB Γ Γx = true) :
    PS X (.Raise (some (.Call (.Name n p) [] [] p1)) none pos) (tS C W fi Γx Γ none (.raise x)) := by
  have hX := hS.x
  have hc := hX.cn
  subst hc
  subst hn
  obtain ⟨bmB, B, newId, initId, F, q⟩ := f.q
  refine PS.weak (ps_raise hX.calm hX.tk (pmk_own0 F q f.mg f.ki (raises_own f.r1 f.r2) (glB_gl (by rw [← hX.sc]; exact hg)) (plainName_ne hp).1)) fun D c H => ?_
  rintro ⟨Z, s, env, q⟩
  exact q c H Z ((PostS.refl env).weak hw)
theorem pass_sound {pos : Pos} : PS X (.Pass pos) (tS C W fi Γx Γ (some Γ) .pass) := by
  refine PS.weak ps_pass fun D c H => ?_
  rintro ⟨Z, s, env, q⟩
  obtain ⟨G2, e, q⟩ := q
  cases e
  exact q c H Z (.refl env)
theorem Args.rpL {K : PySem.W.Frag} {Z : Addr → Prop} {H : Hp} : ∀ {j : Nat} {ds : List D} {vs : List V}, Args K Z H (fun _ => true) j ds vs → RpL K Z H ds vs
  | _, [], _, h => h
  | j, d :: ds, _, ⟨v, r, e, h1, h2⟩ => ⟨v, r, e, by rw [if_pos rfl] at h1; exact h1, Args.rpL h2⟩
theorem RpL.args {K : PySem.W.Frag} {Z : Addr → Prop} {H : Hp} : ∀ {j : Nat} {ds : List D} {vs : List V}, RpL K Z H ds vs → Args K Z H (fun _ => false) j ds vs
  | _, [], _, h => h
  | j, d :: ds, _, ⟨v, r, e, h1, h2⟩ => ⟨v, r, e, by rw [if_neg Bool.false_ne_true]; exact .inl h1, RpL.args h2⟩
theorem esc_all : ∀ {ks : List Kd} {j : Nat}, (ks.all Kd.firm) = true → escOk (fun _ => true) j ks = true
  | [], _, _ => rfl
  | k :: ks, j, h => by
    rw [List.all_cons, Bool.and_eq_true] at h
    show ((!true || k.firm) && escOk _ (j + 1) ks) = true
    rw [h.1, esc_all h.2]; rfl
/-- the turns of a for -/
theorem for_turns {g : List SK} {rb : Option (List SK)} {tg : Tg} {body : CSs} {J : It} {items : List D} {Z1 : Addr → Prop} {H1 : Hp} {s1 : Sg} {c : St} {Df : Ends} (env : Env C.K Z1 H1 g s1 c)
    (hl : ∀ i ∈ tgS tg, i ∉ fi.L) (hg : ∀ i ∈ tgS tg, i < g.length) (jb : ∀ g1, rb = some g1 → wkB g1 g = true) (nb : rb = none → ∀ s s1, evSs body s ≠ .nx s1)
    (q : endS C W fi Γx g (some g) Z1 H1 c Df (forL tg (fun s2 => evSs body s2) items s1))
    (good : ∀ (Z : Addr → Prop) (H : Hp) (s : Sg) (σ : St), PostS C.K fi.L Z1 H1 g c g s σ Z H →
      (∀ (i : Nat) (d : D), items[i]? = some d → J.go i H ∧ ∀ x H1, J.yld i H x H1 → (∀ a o, H a = some o → H1 a = some o) ∧ Rp C.K Z H1 d x) ∧ ∀ i, items.length ≤ i → J.stop i H) :
    ∃ Wv : Nat → Nat → St → Hp → Prop, (∃ m, Wv 0 m c H1) ∧ ∀ i m σ H, Wv i m σ H →
      (J.stop i H ∧ Df.nx σ H) ∨ (J.go i H ∧ ∃ N : St → Hp → Prop, (∀ σ' H', N σ' H' → ∃ m', m' < m ∧ Wv (i + 1) m' σ' H') ∧ ∀ x H', J.yld i H x H' → gT C.K tg x σ H' fun σ2 H2 => tSs C W fi Γx (setAll g .fr (tgS tg)) rb body { Df with nx := N, ct := N, bk := Df.nx } σ2 H2) := by
  obtain ⟨o, ho⟩ : ∃ o, forL tg (fun s2 => evSs body s2) items s1 = o := ⟨_, rfl⟩
  rw [ho] at q
  let Inv : Nat → St → Hp → Prop := fun i σ H => ∃ (Z : Addr → Prop) (s : Sg), PostS C.K fi.L Z1 H1 g c g s σ Z H ∧ forL tg (fun s2 => evSs body s2) (items.drop i) s = o
  refine ⟨fun i m σ H => m = items.length - i ∧ i ≤ items.length ∧ Inv i σ H, ⟨items.length, by simp, Nat.zero_le _, Z1, s1, .refl env, by rw [List.drop_zero]; exact ho⟩, ?_⟩
  rintro i m σ H ⟨rfl, hi, Z, s, p, e⟩
  obtain ⟨g1, g2⟩ := good Z H s σ p
  by_cases hlt : i < items.length
  · refine .inr ⟨(g1 i _ (List.getElem?_eq_getElem hlt)).1, Inv (i + 1), fun σ' H' p' => ⟨items.length - (i + 1), by omega, rfl, hlt, p'⟩, fun x H' hy => ?_⟩
    obtain ⟨st, rx⟩ := (g1 i _ (List.getElem?_eq_getElem hlt)).2 x H' hy
    rw [List.drop_eq_getElem_cons hlt] at e
    unfold forL at e
    cases eb : bnd tg items[i] s with
    | none =>
      rw [eb] at e
      rw [← e] at q
      exact q.elim
    | some s2 =>
      rw [eb] at e
      dsimp only at e
      have pe : PostE C.K Z H g σ s Z H' := ⟨fun _ h => h, fun _ h => .inl h, fun a o h _ => st a o h, p.env.more (fun _ h => h) (fun _ h => .inl h) (fun a h => by
        cases q : H a with
        | none => exact absurd q (p.env.zd a h)
        | some o => rw [st a o q]; exact fun z => nomatch z) st⟩
      refine bnd_sound tg items[i] x s s2 _ _ _ pe.env (.inl rx) (fun _ _ => rx) eb fun c2 e2 k2 => ?_
      have pb := p.trans (pe.bound (L := fi.L) hl hg e2 k2)
      refine ⟨Z, s2, e2, ?_⟩
      have q2 := q
      rw [← e] at q2
      cases e3 : evSs body s2 with
      | nx s3 =>
        cases rb with
        | none => exact absurd e3 (nb rfl _ _)
        | some g3 =>
          refine ⟨g3, rfl, fun c3 H3 Z3 p3 => ⟨Z3, s3, (pb.trans p3).weak (jb g3 rfl), ?_⟩⟩
          rw [← e, e3]
      | ret d s3 =>
        rw [e3] at q2
        exact fun v c3 H3 Z3 p3 kr => q2 v c3 H3 Z3 (pb.trans p3) (kr.older pb)
      | exc x s3 =>
        rw [e3] at q2
        exact fun c3 H3 Z3 p3 => q2 c3 H3 Z3 (pb.trans p3)
      | stuck =>
        rw [e3] at q2
        exact q2
  · refine .inl ⟨g2 i (by omega), ?_⟩
    rw [List.drop_eq_nil_of_le (by omega)] at e
    have e : SOut.nx s = _ := e
    rw [← e] at q
    obtain ⟨G2, eq, q⟩ := q
    cases eq
    exact q σ H Z p
theorem for_sound (hS : SOk C fi k W X) {P : Ip} {as : CEs} {ks : List Kd} {es : List Expr} {t it : Expr} {b : List Stmt} {tg : Tg} {body : CSs} {g : List SK} {rb : Option (List SK)} {n : Nat} {pos : Pos}
    (hP : P.Ok C) (hr : P.rcg fi.sc t it = some es) (ok : OkEs C k as) (hck : ckEs fi.N fi.sc Γ as es = some ks) (hk : ks.all Kd.firm = true) (hw : wkB Γ Γx = true) (hwg : wkB Γ g = true) (hset : isSet it = false) (ht : ckTg fi.N fi.sc tg t = true)
    (hl : ∀ i ∈ tgS tg, i ∉ fi.L) (hg : ∀ i ∈ tgS tg, i < Γ.length) (jb : ∀ g1, rb = some g1 → wkB g1 g = true) (nb : rb = none → ∀ s s1, evSs body s ≠ .nx s1)
    (hb : PSs X b (tSs C W fi Γx (setAll g .fr (tgS tg)) rb body)) : PS X (.For t it b [] pos) (tS C W fi Γx Γ (some g) (.for_ P as tg body g)) := by
  have hX := hS.x
  obtain ⟨ts, q1, q2, q3⟩ := evEs_sound as hX ok hck
  have hc := hX.cn
  have hK : X.K = C.K := by rw [hc]; rfl
  refine PS.weak (ps_for hS.po hX.calm (hP hX hr q1 q2) (tg_sound hX.N hX.nd hX.calm (stores_def hS) tg t ht) hb (set_fold hset)) fun D c H => ?_
  rintro ⟨Z, s, env, q⟩
  refine q3 c H _ (stL_read (f := fun ds s1 => match P.sem ds with
    | none => .stuck
    | some items => forL tg (fun s2 => evSs body s2) items s1) hw env q fun ds s1 e1 vs H1 Z1 p kvs nd q => ?_)
  obtain ⟨Z2, z1, z2, z3, z4, ar⟩ := KVs.args (fun _ => true) (j := 0) p.env kvs (esc_all hk)
  have rl := ar.rpL
  cases e2 : P.sem ds with
  | none => rw [e2] at q; exact q.elim
  | some items =>
    rw [e2] at q
    have p2 : PostE C.K Z H Γ c s1 Z2 H1 := ⟨fun a h => z1 a (p.zz a h), fun a h => (z2 a h).elim (p.zn a) .inr, p.pr, p.env.grow z1 z3 z4⟩
    have p3 : PostS C.K fi.L Z H Γ c g s1 c Z2 H1 := p2.toS.weak hwg
    refine ⟨Z2, ds, items, z3, rl.args, e2, fun J gd => ?_⟩
    rw [hK]
    exact for_turns p3.env hl (fun i hi => by rw [(wkB_ok hwg).1]; exact hg i hi) jb nb (q.from_ p3) fun Z3 H3 s3 σ3 p4 => gd Z3 H3 p4.env.zd (RpL.mono (p4.mono p3.env) _ _ rl).args
end
end G
end
section
set_option maxRecDepth 10000
/-! for over a dict; while; try. -/
namespace G
open PySem L2
section
variable {K : PySem.W.Frag} {L : List Nat} {Z Z1 : Addr → Prop} {H : Hp} {Γ Γ1 : List SK} {s : Sg} {c : St} {d : Addr} {u : HO} {od : Obj}
theorem PostS.unlock {s2 : Sg} {c2 : St} {Z2 : Addr → Prop} {H2 : Hp} (e : Env K Z H Γ s c) (zd : Z d) (hd : H d = some u) (hu : isDict u = true) (p : PostS K L Z (upd H d (.frz od u)) Γ c Γ1 s2 c2 Z2 H2) :
    H2 d = some (.frz od u) ∧ PostS K L Z H Γ c Γ1 s2 c2 Z2 (upd H2 d u) := by
  have nd : ¬ Own Γ c d := fun w => (e.own w).1 zd
  have h2 : H2 d = some (.frz od u) := p.pr d _ upd_same nd
  have lo : ∀ a, (upd H d (.frz od u)) a = Option.none → H a = Option.none := fun a h => by
    rw [← h, upd_ne]
    intro z
    rw [z, upd_same] at h
    cases h
  have nd1 : ¬ Own Γ1 c2 d := fun w => (p.ow d w).elim nd fun h => by rw [upd_same] at h; cases h
  refine ⟨h2, p.zz, fun a h => ?_, fun a o h w => ?_, fun a h => (p.ow a h).imp id (lo a), p.env.mo (unlock_mo h2 hu) (fun a h => ?_) fun a w => ?_, p.kp⟩
  · rcases p.zn a h with h | h | h
    · exact .inl h
    · exact .inr (.inl (lo a h))
    · exact .inr (.inr h)
  · by_cases ha : a = d
    · subst ha
      rw [hd] at h; cases h
      exact upd_same
    · rw [upd_ne ha]
      exact p.pr a o (by rw [upd_ne ha]; exact h) w
  · by_cases ha : a = d
    · rw [ha, upd_same]; exact fun z => nomatch z
    · rw [upd_ne ha]; exact p.env.zd a h
  · exact ⟨upd_ne fun z => nd1 (by rw [← z]; exact w), (p.env.own w).1⟩
theorem KR.unlock {nw : Bool} {x : D} {v : V} {c2 : St} {Z2 : Addr → Prop} {H2 : Hp} (e : Env K Z H Γ s c) (zd : Z d) (h2 : H2 d = some (.frz od u)) (hu : isDict u = true) (h : KR K nw L (upd H d (.frz od u)) Γ c c2 Z2 H2 x v) : KR K nw L H Γ c c2 Z2 (upd H2 d u) x v := by
  unfold KR at h ⊢
  cases nw with
  | false => exact Rp.mo (unlock_mo h2 hu) _ _ h
  | true =>
    rw [if_pos rfl] at h ⊢
    obtain ⟨a, h1, h3, h4, h5, h6⟩ := h
    have nd : ¬ Own Γ c d := fun w => (e.own w).1 zd
    have hne : a ≠ d := fun z => by
      subst z
      rcases h3 with h3 | h3
      · exact nd h3
      · rw [upd_same] at h3; cases h3
    refine ⟨a, h1, h3.imp id fun h3 => by rw [upd_ne hne] at h3; exact h3, h4, Top.mo (unlock_mo h2 hu) (upd_ne hne) h5, h6⟩
end
section
variable {C : Cn} {fi : FI} {k : Nat} {W : WX} {X : Cx} {Γx Γ Γ1 : List SK} {r : Option (List SK)}
def lockD (d : Addr) (od : Obj) (u : HO) (D : Ends) : Ends := ⟨fun σ' H' => H' d = some (.frz od u) ∧ D.nx σ' (upd H' d u), fun v H' => H' d = some (.frz od u) ∧ D.rt v (upd H' d u), fun σ' H' => H' d = some (.frz od u) ∧ D.bk σ' (upd H' d u), fun σ' H' => H' d = some (.frz od u) ∧ D.ct σ' (upd H' d u)⟩
theorem endS.lock {d : Addr} {u : HO} {od : Obj} {Z : Addr → Prop} {H : Hp} {s : Sg} {c : St} {Df : Ends} {o : SOut} (e : Env C.K Z H Γ s c) (zd : Z d) (hd : H d = some u) (hu : isDict u = true) (hx : ∀ x s1, o ≠ .exc x s1) (q : endS C W fi Γx Γ r Z H c Df o) :
    endS C W fi Γx Γ r Z (upd H d (.frz od u)) c (lockD d od u Df) o := by
  cases o with
  | nx s1 =>
    obtain ⟨G2, eq, q⟩ := q
    refine ⟨G2, eq, fun c1 H1 Z1 p => ?_⟩
    obtain ⟨p1, p2⟩ := p.unlock e zd hd hu
    exact ⟨p1, q c1 _ Z1 p2⟩
  | ret x s1 =>
    intro v c1 H1 Z1 p kr
    obtain ⟨p1, p2⟩ := p.unlock e zd hd hu
    exact ⟨p1, q v c1 _ Z1 p2 (kr.unlock e zd p1 hu)⟩
  | exc x s1 => exact absurd rfl (hx x s1)
  | stuck => exact q
theorem forK_sound (hS : SOk C fi k W X) {i : Nat} {x : Str} {px pos : Pos} {t : Expr} {b : List Stmt} {tg : Tg} {body : CSs} {g : List SK} {rb : Option (List SK)}
    (hv : (decide (fi.N[i]? = some x) && visB fi.sc x && plainName x) = true) (hfr : Γ[i]? = some .fr) (hwg : wkB Γ g = true) (ht : ckTg fi.N fi.sc tg t = true)
    (hl : ∀ i ∈ tgS tg, i ∉ fi.L) (hg : ∀ i ∈ tgS tg, i < Γ.length) (jb : ∀ g1, rb = some g1 → wkB g1 g = true) (nb : rb = none → ∀ s s1, evSs body s ≠ .nx s1)
    (hb : PSs X b (tSs C W fi Γx (setAll g .fr (tgS tg)) rb body)) : PS X (.For t (.Name x px) b [] pos) (tS C W fi Γx Γ (some g) (.forK i tg body g)) := by
  have hX := hS.x
  have hc := hX.cn
  have hK : X.K = C.K := by rw [hc]; rfl
  have base := ps_for (pos := pos) hS.po hX.calm (pi_keys (tg := t) (var_raw hX hv (pos := px))) (tg_sound hX.N hX.nd hX.calm (stores_def hS) tg t ht) hb (by intro _; rfl)
  refine PS.weak (PS.or base (ps_lock base)) fun Df c H => ?_
  rintro ⟨Z, s, env, q⟩
  have ev : evS (.forK i tg body g) s = match keysOf (gt s i) with
    | none => .stuck
    | some items => (match forL tg (fun s2 => evSs body s2) items s with
      | .exc _ _ => .stuck
      | o => o) := rfl
  rw [ev] at q
  obtain ⟨v, h1, h2⟩ := env.fr i hfr
  cases e3 : keysOf (gt s i) with
  | none => rw [e3] at q; exact q.elim
  | some items =>
    rw [e3] at q
    dsimp only at q
    have hx : ∀ x s1, forL tg (fun s2 => evSs body s2) items s ≠ .exc x s1 := fun x s1 e => by rw [e] at q; exact q.elim
    have q1 : endS C W fi Γx Γ (some g) Z H c Df (forL tg (fun s2 => evSs body s2) items s) := by
      cases e4 : forL tg (fun s2 => evSs body s2) items s with
      | exc x s1 => exact absurd e4 (hx x s1)
      | nx s1 => rw [e4] at q; exact q
      | ret d s1 => rw [e4] at q; exact q
      | stuck => rw [e4] at q; exact q
    obtain ⟨d, u, rfl, zd, hu, hr, hk2⟩ := dict_here e3 h2
    have walk : ∀ (HL : Hp) (o : Obj) (D2 : Ends), Env C.K Z HL Γ s c → HL d = some (.frz o u) → endS C W fi Γx Γ (some g) Z HL c D2 (forL tg (fun s2 => evSs body s2) items s) →
        tFor (iKeys (tVar i)) (gT C.K tg) (tSs C W fi Γx (setAll g .fr (tgS tg)) rb body) D2 c HL := by
      intro HL o D2 eL hL q
      have pw : PostS C.K fi.L Z HL Γ c g s c Z HL := (PostS.refl eL).weak hwg
      have stays : ∀ (Z2 : Addr → Prop) (H2 : Hp) (s2 : Sg) (σ2 : St), PostS C.K fi.L Z HL g c g s2 σ2 Z2 H2 → H2 d = some (.frz o u) := fun Z2 H2 s2 σ2 p2 => p2.pr d _ hL fun w => by
        obtain ⟨_, o', ho, to⟩ := pw.env.own w
        rw [hL] at ho; cases ho; cases to
      refine ⟨_, h1, d, o, rfl, ?_⟩
      rcases hk2 with ⟨kvs, rfl, hit⟩ | ⟨kvs, rfl, hit⟩
      · exact .inl ⟨kvs, hL, for_turns pw.env hl (fun i hi => by rw [(wkB_ok hwg).1]; exact hg i hi) jb nb (q.from_ pw) fun Z2 H2 s2 σ2 p2 => keys_good hit (stays Z2 H2 s2 σ2 p2)⟩
      · exact .inr ⟨kvs, hL, for_turns pw.env hl (fun i hi => by rw [(wkB_ok hwg).1]; exact hg i hi) jb nb (q.from_ pw) fun Z2 H2 s2 σ2 p2 => keysT_good hit (stays Z2 H2 s2 σ2 p2)⟩
    rw [hK]
    rcases hr with hr | ⟨o, hr⟩
    · exact .inr ⟨d, u, hr, (by cases u <;> first | trivial | cases hu), fun od => walk _ od _ (env.lock zd hr hu) upd_same (q1.lock env zd hr hu hx)⟩
    · exact .inl (walk H o Df env hr q1)
/-! ### while -/
theorem whl_sound (hS : SOk C fi k W X) {ce : Expr} {b : List Stmt} {t : CE} {body : CSs} {g : List SK} {rb : Option (List SK)} {pos : Pos} (ok : OkE C k t) (h : ckT fi.N fi.sc g t ce = true) (hwg : wkB Γ g = true) (hgx : wkB g Γx = true)
    (jb : ∀ g1, rb = some g1 → wkB g1 g = true) (nb : rb = none → ∀ s s1, evSs body s ≠ .nx s1) (hb : PSs X b (tSs C W fi Γx g rb body)) : PS X (.While ce b [] pos) (tS C W fi Γx Γ (some g) (.whl t body g)) := by
  refine PS.weak (ps_while hS.po (evT_sound t hS.x ok h) hb) fun Df c H => ?_
  rintro ⟨Z, s, env, q⟩
  have pw : PostS C.K fi.L Z H Γ c g s c Z H := (PostS.refl env).weak hwg
  obtain ⟨o, ho⟩ : ∃ o, whileL (fun s2 => evT t s2) (fun s2 => evSs body s2) wmax s = o := ⟨_, rfl⟩
  have q : endS C W fi Γx Γ (some g) Z H c Df o := by rw [← ho]; exact q
  refine ⟨fun m σ H' => ∃ Z' s', PostS C.K fi.L Z H Γ c g s' σ Z' H' ∧ whileL (fun s2 => evT t s2) (fun s2 => evSs body s2) m s' = o, ⟨wmax, Z, s, pw, ho⟩, ?_⟩
  rintro m σ H' ⟨Z', s', p, e⟩
  cases m with
  | zero =>
    have e : SOut.stuck = o := e
    rw [← e] at q; exact q.elim
  | succ m =>
    refine ⟨Z', s', p.env, ?_⟩
    unfold whileL at e
    cases e1 : evT t s' with
    | stuck => rw [e1] at e; rw [← e] at q; exact q.elim
    | exc x s1 =>
      rw [e1] at e
      rw [← e] at q
      exact fun H1 Z1 p1 => q σ H1 Z1 ((p.trans p1.toS).weak hgx)
    | ok t1 s1 =>
      rw [e1] at e
      intro H1 Z1 p1
      have p2 := p.trans (p1.toS (L := fi.L))
      cases t1 with
      | false =>
        rw [if_neg Bool.false_ne_true]
        have e : SOut.nx s1 = o := e
        rw [← e] at q
        obtain ⟨G2, eq, q⟩ := q
        cases eq
        exact q σ H1 Z1 p2
      | true =>
        rw [if_pos rfl]
        refine ⟨_, fun σ' H' n => ⟨m, Nat.lt_succ_self m, n⟩, Z1, s1, p1.env, ?_⟩
        dsimp only at e
        rw [← e] at q
        cases e3 : evSs body s1 with
        | nx s3 =>
          cases rb with
          | none => exact absurd e3 (nb rfl _ _)
          | some g3 =>
            refine ⟨g3, rfl, fun c3 H3 Z3 p3 => ⟨Z3, s3, (p2.trans p3).weak (jb g3 rfl), ?_⟩⟩
            rw [← e, e3]
        | ret d s3 =>
          rw [e3] at q
          exact fun v c3 H3 Z3 p3 kr => q v c3 H3 Z3 (p2.trans p3) (kr.older p2)
        | exc x s3 =>
          rw [e3] at q
          exact fun c3 H3 Z3 p3 => q c3 H3 Z3 (p2.trans p3)
        | stuck =>
          rw [e3] at q
          exact q
end
end G
end
section
set_option maxRecDepth 10000
/-! try. -/
namespace G
open PySem L2
def Ct.v : Ct → V
  | .non => .non
  | .bl b => .bl b
  | .int i => .int i
  | .str s => .str s
theorem ct_pe {X : Cx} {k : Ct} {c : Const} {j : Nat} {p : Pos} (h : ctB k c = true) : PE X (.Constant c j p) (tC k.v) := by
  cases k <;> cases c <;> first | cases h | skip
  · exact pe_non
  · have h := eq_of_beq h
    subst h; exact pe_bl
  · have h := of_decide_eq_true h
    subst h; exact pe_int
  · have h := of_decide_eq_true h
    subst h; exact pe_str
theorem ct_rp {K : PySem.W.Frag} {Z : Addr → Prop} {H : Hp} : ∀ k : Ct, Rp K Z H k.d k.v
  | .non => rfl
  | .bl _ => rfl
  | .int _ => rfl
  | .str _ => rfl
def hTS (h : Hs) : Addr → Value → Option Addr → TS := fun _ _ _ => match h with
  | .set i k => tAsg (tC k.v) (gName i)
  | .ret k => tRet (tC k.v)
section
variable {C : Cn} {fi : FI} {k : Nat} {W : WX} {X : Cx} {Γx Γ Γ1 : List SK} {r : Option (List SK)}
theorem hs_sound (hS : SOk C fi k W X) {gj : List SK} {a : Addr} {pn : List (Addr × Obj)} {cls : Value} {d : Option Addr} : ∀ (h : Hs) {b : List Stmt}, ckHs fi Γ gj h b = true → ∃ b0 br, b = b0 :: br ∧ PSs (X.suite a pn) (b0 :: br) (hTS h a cls d)
  | .set i k, b, h => by
    have hX := hS.x
    cases b with
    | nil => cases h
    | cons st br =>
      cases br with
      | cons _ _ => cases st <;> first | cases h | (rename_i l _ _; cases l <;> first | cases h | (rename_i t ts; cases t <;> first | cases h | (cases ts <;> first | cases h | (rename_i v _ _ _; cases v <;> cases h))))
      | nil =>
        cases st with
        | Assign l v pos =>
          cases l with
          | nil => cases h
          | cons t ts =>
            cases t with
            | Name y py =>
              cases ts with
              | cons _ _ => cases h
              | nil =>
                cases v with
                | Constant c j p =>
                  have h : (decide (fi.N[i]? = some y) && (fi.sc.names.lookup y == some .local) && !decide (i ∈ fi.L) && ctB k c && decide (i < Γ.length) && wkB (Γ.set i .fr) gj) = true := h
                  simp only [Bool.and_eq_true, decide_eq_true_eq] at h
                  obtain ⟨⟨⟨⟨⟨h1, h2⟩, h3⟩, h4⟩, h5⟩, h6⟩ := h
                  have h2 : X.env.scope.names.lookup y = some .local := by rw [← hX.sc]; simpa using h2
                  exact ⟨_, _, rfl, pss_one (ps_set (X := X.suite a pn) hX.nd (by show X.N[i]? = _; rw [← hX.N]; exact h1) (.inl h2) (ct_pe h4) rfl (.inr h2))⟩
                | _ => cases h
            | _ => cases h
        | _ => cases h
  | .ret k, b, h => by
    cases b with
    | nil => cases h
    | cons st br =>
      cases st with
      | Return v pos =>
        cases v with
        | none => cases br <;> cases h
        | some v =>
          cases v with
          | Constant c j p =>
            cases br with
            | cons _ _ => cases h
            | nil =>
              have h : (ctB k c && !fi.nw && wkB Γ fi.GL) = true := h
              simp only [Bool.and_eq_true] at h
              exact ⟨_, _, rfl, pss_one (ps_ret (ct_pe h.1.1))⟩
          | _ => cases br <;> cases h
      | _ => cases br <;> cases h
theorem hds_sound (hS : SOk C fi k W X) {gj : List SK} : ∀ (hs : List (Ex × Hs)) {hds : List ExceptHandler}, ckHds fi Γ gj hs hds = true → (∀ p ∈ hs, ExF C p.1) → HdsOk X hds (hs.map fun p => (.ref (xa C.mg p.1), hTS p.2))
  | [], hds, h, _ => by
    cases hds with
    | nil => exact .nil
    | cons _ _ => cases h
  | (x, h) :: hs, hds, hc, hf => by
    cases hds with
    | nil => cases hc
    | cons e er =>
      cases e with
      | ExceptHandler t n b pos =>
        cases t with
        | none => cases hc
        | some t =>
          cases t with
          | Name nm np =>
            cases n with
            | some _ => cases hc
            | none =>
              have hc : (decide (nm = x.name) && glB fi.sc nm && plainName nm && ckHs fi Γ gj h b && ckHds fi Γ gj hs er) = true := hc
              simp only [Bool.and_eq_true, decide_eq_true_eq] at hc
              obtain ⟨⟨⟨⟨h1, h2⟩, h3⟩, h4⟩, h5⟩ := hc
              have hX := hS.x
              have f := hf _ List.mem_cons_self
              have e0 := hX.cn
              obtain ⟨b0, br, hb, _⟩ := hs_sound hS (a := 0) (pn := []) (cls := .none) (d := none) h h4
              subst hb
              refine .cons ⟨glB_gl (by rw [← hX.sc]; exact h2), (plainName_ne h3).1, .inl ?_⟩ (fun a oe cls d pn _ _ => ?_) (hds_sound hS hs h5 fun p hp => hf p (List.mem_cons_of_mem _ hp))
              · have := f.mg
                rw [h1, ← this, e0]; rfl
              · obtain ⟨b1, br1, hb1, q⟩ := hs_sound hS (a := a) (pn := (a, oe) :: pn) (cls := cls) (d := d) h h4
                cases hb1
                exact q
          | _ => cases hc
theorem many_sound {gx gj : List SK} {Z : Addr → Prop} {H : Hp} {c : St} {Df : Ends} {x : Ex} {s1 : Sg} {K : PySem.W.Frag} (hK : K = C.K) (hgx : wkB gx Γx = true) : ∀ (hs : List (Ex × Hs)) {hds : List ExceptHandler}, ckHds fi gx gj hs hds = true →
    (∀ p ∈ hs, PySem.W.exmOne C.K (.ref (xa C.mg x)) (.ref (xa C.mg p.1)) = some (x.isA p.1)) → endS C W fi Γx Γ (some gj) Z H c Df (evH x hs s1) → ∀ c1 H1 Z1, PostS C.K fi.L Z H Γ c gx s1 c1 Z1 H1 →
    wMany K W Df (hs.map fun p => (.ref (xa C.mg p.1), hTS p.2)) (.ref (xa C.mg x)) none c1 H1
  | [], hds, _, _, q, c1, H1, Z1, p => q c1 H1 Z1 (p.weak hgx)
  | (y, h) :: hs, hds, hc, hf, q, c1, H1, Z1, p => by
    cases hds with
    | nil => cases hc
    | cons e er =>
      cases e with
      | ExceptHandler t n b pos =>
        cases t with
        | none => cases hc
        | some t =>
          cases t with
          | Name nm np =>
            cases n with
            | some _ => cases hc
            | none =>
              have hc : (decide (nm = y.name) && glB fi.sc nm && plainName nm && ckHs fi gx gj h b && ckHds fi gx gj hs er) = true := hc
              simp only [Bool.and_eq_true, decide_eq_true_eq] at hc
              obtain ⟨⟨⟨⟨h1, h2⟩, h3⟩, h4⟩, h5⟩ := hc
              have q : endS C W fi Γx Γ (some gj) Z H c Df (if x.isA y = true then (match (generalizing := false) h with
                | .set i k => .nx (s1.set i k.d)
                | .ret k => .ret k.d s1) else evH x hs s1) := q
              refine ⟨x.isA y, by rw [hK]; exact hf (y, h) List.mem_cons_self, fun yes a ha => ?_, fun no => ?_⟩
              · rw [if_pos yes] at q
                cases h with
                | set i k =>
                  cases b with
                  | nil => cases h4
                  | cons st br =>
                    have h4 : decide (i ∈ fi.L) = false ∧ i < gx.length ∧ wkB (gx.set i .fr) gj = true := by
                      cases br with
                      | cons _ _ => cases st <;> first | cases h4 | (rename_i l _ _; cases l <;> first | cases h4 | (rename_i t ts; cases t <;> first | cases h4 | (cases ts <;> first | cases h4 | (rename_i v _ _ _; cases v <;> cases h4))))
                      | nil =>
                        cases st with
                        | Assign l v pos =>
                          cases l with
                          | nil => cases h4
                          | cons t ts =>
                            cases t with
                            | Name y py =>
                              cases ts with
                              | cons _ _ => cases h4
                              | nil =>
                                cases v with
                                | Constant c j p =>
                                  have h : (decide (fi.N[i]? = some y) && (fi.sc.names.lookup y == some .local) && !decide (i ∈ fi.L) && ctB k c && decide (i < gx.length) && wkB (gx.set i .fr) gj) = true := h4
                                  simp only [Bool.and_eq_true, decide_eq_true_eq, Bool.not_eq_true'] at h
                                  obtain ⟨⟨⟨⟨⟨h1, h2⟩, h3⟩, h4⟩, h5⟩, h6⟩ := h
                                  exact ⟨h3, h5, h6⟩
                                | _ => cases h4
                            | _ => cases h4
                        | _ => cases h4
                    obtain ⟨g1, g2, g3⟩ := h4
                    obtain ⟨G2, eq, q⟩ := q
                    cases eq
                    refine q _ H1 Z1 (((p.trans ((PostE.refl p.env).bound (L := fi.L) (ts := [i]) (fun j hj => by rw [List.mem_singleton.mp hj]; simpa using g1) (fun j hj => by rw [List.mem_singleton.mp hj]; exact g2)
                      (p.env.setF (by rw [p.env.len.1, ← p.env.len.2]; exact g2) (ct_rp k)) fun j hj => ?_))).weak g3)
                    rw [List.getElem?_set_ne fun z => hj (by rw [z]; exact List.mem_singleton.mpr rfl)]
                | ret k =>
                  have h4 : fi.nw = false ∧ wkB gx fi.GL = true := by
                    cases b with
                    | nil => cases h4
                    | cons st br =>
                      cases st with
                      | Return v pos =>
                        cases v with
                        | none => cases br <;> cases h4
                        | some v =>
                          cases v with
                          | Constant c j p =>
                            cases br with
                            | cons _ _ => cases h4
                            | nil =>
                              have h : (ctB k c && !fi.nw && wkB gx fi.GL) = true := h4
                              simp only [Bool.and_eq_true, Bool.not_eq_true'] at h
                              exact ⟨h.1.2, h.2⟩
                          | _ => cases br <;> cases h4
                      | _ => cases br <;> cases h4
                  refine q k.v c1 H1 Z1 (p.weak h4.2) ?_
                  rw [h4.1]
                  unfold KR
                  rw [if_neg Bool.false_ne_true]
                  exact ct_rp k
              · rw [if_neg (by rw [no]; decide)] at q
                exact many_sound hK hgx hs h5 (fun p hp => hf p (List.mem_cons_of_mem _ hp)) q c1 H1 Z1 p
          | _ => cases hc
theorem try_sound (hS : SOk C fi k W X) {b : List Stmt} {h0 : ExceptHandler} {hr : List ExceptHandler} {body : CSs} {xs : List Ex} {hs : List (Ex × Hs)} {gx gj : List SK} {pos : Pos}
    (hc : ckHds fi gx gj hs (h0 :: hr) = true) (hf : ∀ p ∈ hs, ExF C p.1) (hx : ∀ x ∈ xs, ∀ p ∈ hs, PySem.W.exmOne C.K (.ref (xa C.mg x)) (.ref (xa C.mg p.1)) = some (x.isA p.1)) (hgx : wkB gx Γx = true)
    (jb : ∀ g1, r = some g1 → wkB g1 gj = true) (nb : r = none → ∀ s s1, evSs body s ≠ .nx s1)
    (hb : ∀ (W : WX) (Y : Cx), SOk C fi k W Y → PSs Y b (tSs C W fi gx Γ r body)) : PS X (.Try b (h0 :: hr) [] [] pos) (tS C W fi Γx Γ (some gj) (.tri body xs hs gx gj)) := by
  have hX := hS.x
  have hcn := hX.cn
  have hK : X.K = C.K := by rw [hcn]; rfl
  refine PS.weak (ps_try_many hS.stk hS.frm hX.tk (fun W1 pn xe tk po => hb W1 (X.tr pn xe) ⟨⟨hcn, hX.N, hX.nd, hX.sc, hX.calm, hX.room, tk⟩, hS.stk, hS.frm, hS.fn, po, hS.kd⟩) (hds_sound hS hs hc hf)) fun Df c H => ?_
  rintro ⟨Z, s, env, q⟩
  refine ⟨Z, s, env, ?_⟩
  have ev : evS (.tri body xs hs gx gj) s = match evSs body s with
    | .exc x s1 => if x ∈ xs then evH x hs s1 else .stuck
    | o => o := rfl
  rw [ev] at q
  cases e : evSs body s with
  | nx s1 =>
    rw [e] at q
    cases r with
    | none => exact absurd e (nb rfl _ _)
    | some g1 =>
      obtain ⟨G2, eq, q⟩ := q
      cases eq
      exact ⟨g1, rfl, fun c1 H1 Z1 p => q c1 H1 Z1 (p.weak (jb g1 rfl))⟩
  | ret d s1 => rw [e] at q; exact q
  | stuck => rw [e] at q; exact q
  | exc x s1 =>
    rw [e] at q
    dsimp only at q
    by_cases hm : x ∈ xs
    · rw [if_pos hm] at q
      exact fun c1 H1 Z1 p => many_sound hK hgx hs hc (hx x hm) q c1 H1 Z1 p
    · rw [if_neg hm] at q
      exact q.elim
end
end G
end
section
set_option maxRecDepth 10000
/-! All statements. -/
namespace G
open PySem L2
section
variable (C : Cn) (k : Nat)
mutual
def OkS : CS → Prop
  | .asg _ e => OkE C k e
  | .own _ e => OkE C k e
  | .par _ es => OkEs C k es
  | .setIt _ ix e => OkE C k e ∧ OkE C k ix
  | .app _ e => OkE C k e
  | .ext _ e => OkE C k e
  | .rem _ e => OkE C k e
  | .upd _ e => OkE C k e
  | .expr e => OkE C k e
  | .iff c a b _ => OkE C k c ∧ OkSs a ∧ OkSs b
  | .for_ P as _ body _ => P.Ok C ∧ OkEs C k as ∧ OkSs body
  | .forK _ _ body _ => OkSs body
  | .whl c body _ => OkE C k c ∧ OkSs body
  | .ret e => OkE C k e
  | .raise x => ExF C x
  | .tri body xs hs _ _ => OkSs body ∧ (∀ p ∈ hs, ExF C p.1) ∧ ∀ x ∈ xs, ∀ p ∈ hs, PySem.W.exmOne C.K (.ref (xa C.mg x)) (.ref (xa C.mg p.1)) = some (x.isA p.1)
  | .pass => True
def OkSs : CSs → Prop
  | .nil => True
  | .cons s ss => OkS s ∧ OkSs ss
  | .frz _ ss => OkSs ss
end
end
def Never (r : Option (List SK)) (f : Sg → SOut) : Prop := r = none → ∀ s s1, f s ≠ .nx s1
theorem never_some {g : List SK} {f : Sg → SOut} : Never (some g) f := fun h => by cases h
theorem contB_ok {o : Option (Option (List SK))} {g : List SK} (h : contB o g = true) : ∃ r, o = some r ∧ ∀ g1, r = some g1 → wkB g1 g = true := by
  cases o with
  | none => cases h
  | some r =>
    cases r with
    | none => exact ⟨none, rfl, fun _ e => by cases e⟩
    | some g1 => exact ⟨some g1, rfl, fun g2 e => by cases e; exact h⟩
theorem tgs_cond {Γ : List SK} {L : List Nat} {ts : List Nat} (h : (ts.all fun i => !decide (i ∈ L) && decide (i < Γ.length)) = true) : (∀ i ∈ ts, i ∉ L) ∧ ∀ i ∈ ts, i < Γ.length := by
  rw [List.all_eq_true] at h
  refine ⟨fun i hi => ?_, fun i hi => ?_⟩
  · have := h i hi
    simp at this
    exact this.1
  · have := h i hi
    simp at this
    exact this.2
section
variable {C : Cn} {fi : FI} {k : Nat} {W : WX} {X : Cx} {Γx Γ Γ1 : List SK} {r : Option (List SK)}
theorem asg_tup (hS : SOk C fi k W X) {e : CE} {ts : List Tg} {es : List Expr} {v : Expr} {k0 : Nat} {p0 pos : Pos} {kd : Kd} (ok : OkE C k e) (h : ckE fi.N fi.sc Γ e v = some kd) (ht : ckTg fi.N fi.sc (.tup ts) (.Tuple es k0 p0) = true) (hns : noSwap fi.sc (.Tuple es k0 p0) v = true) :
    PS X (.Assign [.Tuple es k0 p0] v pos) (tAsg (tE C W Γ e kd) (gT C.K (.tup ts))) := by
  have hX := hS.x
  have hK : X.K = C.K := by rw [hX.cn]; rfl
  rw [← hK]
  refine ps_asg (evE_sound e hX ok h) (tg_sound hX.N hX.nd hX.calm (stores_def hS) (.tup ts) _ ht) (by cases v <;> rfl) ?_ rfl
  cases v with
  | Tuple vs k1 p1 => exact no_swap (by rw [← hX.sc]; exact hns)
  | _ => rfl
theorem frz_env {K : PySem.W.Frag} {L : List Nat} {Z : Addr → Prop} {H : Hp} {s : Sg} {c : St} {i : Nat} (hi : Γ[i]? = some .ow) (hl : i ∉ L) (e : Env K Z H Γ s c) : ∃ Z1, PostS K L Z H Γ c (Γ.set i .fr) s c Z1 H := by
  obtain ⟨a, h1, h2, h3⟩ := e.ow i hi
  have own : Own Γ c a := ⟨i, hi, h1⟩
  have il : i < Γ.length := (List.getElem?_eq_some_iff.mp hi).1
  obtain ⟨_, o, ho, to⟩ := e.own own
  have m : Mono Z H (fun b => Z b ∨ b = a) H := ⟨fun _ h => .inl h, fun _ _ h _ => h⟩
  have ow2 : ∀ b, Own (Γ.set i .fr) c b → Own Γ c b ∧ b ≠ a := by
    rintro b ⟨j, x1, x2⟩
    by_cases hj : i = j
    · subst hj
      rw [List.getElem?_set_self il] at x1; cases x1
    · rw [List.getElem?_set_ne hj] at x1
      refine ⟨⟨j, x1, x2⟩, fun z => hj ?_⟩
      subst z
      exact e.inj i j b hi x1 h1 x2
  refine ⟨fun b => Z b ∨ b = a, fun _ h => .inl h, fun b h => h.imp id fun z => .inr (by rw [z]; exact own), fun _ _ h _ => h, fun b w => .inl (ow2 b w).1, ?_, fun _ _ => rfl⟩
  refine ⟨⟨e.len.1, by rw [List.length_set]; exact e.len.2⟩, fun b h => ?_, fun j hj => ?_, fun j hj => ?_, fun j1 j2 b x1 x2 x3 x4 => ?_⟩
  · rcases h with h | rfl
    · exact e.zd b h
    · rw [ho]; exact fun z => nomatch z
  · by_cases hij : i = j
    · subst hij
      refine ⟨_, h1, ?_⟩
      exact Top.give (Z := fun b => Z b ∨ b = a) (.inr rfl) (Top.mono m rfl h3)
    · rw [List.getElem?_set_ne hij] at hj
      obtain ⟨v, y1, y2⟩ := e.fr j hj
      exact ⟨v, y1, Rp.mono m _ _ y2⟩
  · by_cases hij : i = j
    · subst hij
      rw [List.getElem?_set_self il] at hj; cases hj
    · rw [List.getElem?_set_ne hij] at hj
      obtain ⟨b, y1, y2, y3⟩ := e.ow j hj
      refine ⟨b, y1, fun z => z.elim y2 fun z => hij ?_, Top.mono m rfl y3⟩
      subst z
      exact e.inj i j b hi hj h1 y1
  · have g : ∀ j : Nat, (Γ.set i SK.fr)[j]? = some SK.ow → Γ[j]? = some SK.ow := fun j x => by
      by_cases hij : i = j
      · subst hij
        rw [List.getElem?_set_self il] at x; cases x
      · rw [List.getElem?_set_ne hij] at x; exact x
    exact e.inj j1 j2 b (g _ x1) (g _ x2) x3 x4
end
end G
end
section
set_option maxRecDepth 10000
/-! The rule of all statements. -/
namespace G
open PySem L2
section
variable {C : Cn} {fi : FI} {k : Nat}
theorem never_of {f g : Sg → SOut} (h : ∀ s, f s = g s) {r : Option (List SK)} (n : Never r g) : Never r f := fun e s s1 => by rw [h]; exact n e s s1
theorem methOk_ok {Γx Γ : List SK} {i : Nat} {x : Str} {ap cp : Pos} {a : Expr} (h : methOk fi Γ Γx i x ap cp a = true) : (decide (fi.N[i]? = some x) && visB fi.sc x && plainName x) = true ∧ Γ[i]? = some .ow ∧ (ap.endLine == cp.line) = true ∧ isStar a = false ∧ wkB Γ Γx = true := by
  unfold methOk at h
  simp only [Bool.and_eq_true, decide_eq_true_eq, Bool.not_eq_true'] at h
  obtain ⟨⟨⟨⟨⟨⟨h1, h2⟩, h3⟩, h4⟩, h5⟩, h6⟩, h7⟩ := h
  exact ⟨by simp [h1, h2, h3], h4, by simpa using h5, h6, h7⟩
mutual
theorem evS_sound : ∀ (cs : CS) {W : WX} {X : Cx} {Γx Γ : List SK} {st : Stmt} {r : Option (List SK)}, SOk C fi k W X → OkS C k cs → ckS fi Γx Γ cs st = some r → PS X st (tS C W fi Γx Γ r cs) ∧ Never r (fun s => evS cs s)
  | .asg tg e, W, X, Γx, Γ, st, r, hS, ok, h => by
    cases st with
    | Assign l v pos =>
      cases l with
      | nil => cases h
      | cons t ts =>
        cases ts with
        | cons _ _ => cases h
        | nil =>
          have h : (match ckE fi.N fi.sc Γ e v with
            | some k => if (k.firm && wkB Γ Γx && ckTg fi.N fi.sc tg t && !isStar t && (tgS tg).all (fun i => !decide (i ∈ fi.L) && decide (i < Γ.length)) && noSwap fi.sc t v && nmOk fi t v) = true then some (some (setAll Γ .fr (tgS tg))) else none
            | none => none) = some r := h
          cases e1 : ckE fi.N fi.sc Γ e v with
          | none => rw [e1] at h; cases h
          | some kd =>
            rw [e1] at h
            dsimp only at h
            split at h
            · rename_i h0
              cases h
              refine ⟨?_, never_some⟩
              rw [Bool.and_eq_true, Bool.and_eq_true, Bool.and_eq_true, Bool.and_eq_true, Bool.and_eq_true, Bool.and_eq_true] at h0
              obtain ⟨⟨⟨⟨⟨⟨h1, h2⟩, h3⟩, h4⟩, h5⟩, h6⟩, h7⟩ := h0
              obtain ⟨c1, c2⟩ := tgs_cond h5
              cases tg with
              | name i =>
                cases t with
                | Name y py =>
                  have h3 : (decide (fi.N[i]? = some y) && locB fi.sc y) = true := h3
                  rw [Bool.and_eq_true, decide_eq_true_eq] at h3
                  have h7 : (!swB fi.sc y py v || isLC v) = true := h7
                  rw [Bool.or_eq_true, Bool.not_eq_true'] at h7
                  exact PS.weak (set_sound hS ok e1 h3.1 h3.2 h7 (ck_comp ok e1)) (asg_read h1 h2 (c1 i (List.mem_singleton.mpr rfl)) (c2 i (List.mem_singleton.mpr rfl)))
                | _ => cases h3
              | tup ts =>
                cases t with
                | Tuple es k0 p0 => exact PS.weak (asg_tup hS ok e1 h3 h6) (asgT_read h1 h2 c1 c2)
                | _ => cases h3
            · cases h
    | _ => cases h
  | .own i e, W, X, Γx, Γ, st, r, hS, ok, h => by
    cases st with
    | Assign l v pos =>
      cases l with
      | nil => cases h
      | cons t ts =>
        cases t with
        | Name y py =>
          cases ts with
          | cons _ _ => cases h
          | nil =>
            have h : (if (decide (ckE fi.N fi.sc Γ e v = some .nw) && wkB Γ Γx && decide (fi.N[i]? = some y) && locB fi.sc y && !decide (i ∈ fi.L) && decide (i < Γ.length) && (!swB fi.sc y py v || isLC v)) = true then some (some (Γ.set i .ow)) else none) = some r := h
            split at h
            · rename_i h0
              cases h
              refine ⟨?_, never_some⟩
              simp only [Bool.and_eq_true, Bool.or_eq_true, decide_eq_true_eq, Bool.not_eq_true', decide_eq_false_iff_not] at h0
              obtain ⟨⟨⟨⟨⟨⟨h1, h2⟩, h3⟩, h4⟩, h5⟩, h6⟩, h7⟩ := h0
              exact PS.weak (set_sound hS ok h1 h3 h4 h7 (ck_comp ok h1)) (own_read h2 h5 h6)
            · cases h
        | _ => cases ts <;> cases h
    | _ => cases h
  | .par ts es, W, X, Γx, Γ, st, r, hS, ok, h => by
    cases st with
    | Assign l v pos =>
      cases l with
      | nil => cases h
      | cons t tr =>
        cases t with
        | Tuple tts k0 p0 =>
          cases tr with
          | cons _ _ => cases h
          | nil =>
            cases v with
            | Tuple vs k1 p1 =>
              have h : (match ckEs fi.N fi.sc Γ es vs with
                | some ks => if (parK ts ks && wkB Γ Γx && parT fi.N fi.sc ts tts && ts.all (fun p => !decide (p.1 ∈ fi.L) && decide (p.1 < Γ.length)) && decide ((ts.map (·.1)).Nodup) && decide (ts.length ≤ 8) && (swap2 fi.sc tts vs || noSwap fi.sc (.Tuple tts 0 ⟨0, 0, 0, 0⟩) (.Tuple vs 0 ⟨0, 0, 0, 0⟩))) = true then some (some (parG ts Γ)) else none
                | none => none) = some r := h
              cases e1 : ckEs fi.N fi.sc Γ es vs with
              | none => rw [e1] at h; cases h
              | some ks =>
                rw [e1] at h
                dsimp only at h
                split at h
                · rename_i h0
                  cases h
                  refine ⟨?_, never_some⟩
                  rw [Bool.and_eq_true, Bool.and_eq_true, Bool.and_eq_true, Bool.and_eq_true, Bool.and_eq_true, Bool.and_eq_true, Bool.or_eq_true, decide_eq_true_eq, decide_eq_true_eq] at h0
                  obtain ⟨⟨⟨⟨⟨⟨h1, h2⟩, h3⟩, h4⟩, h5⟩, h6⟩, h7⟩ := h0
                  refine par_sound hS ok e1 h1 h2 h3 (fun p hp => ?_) h5 h6 h7
                  rw [List.all_eq_true] at h4
                  have := h4 p hp
                  simpa using this
                · cases h
            | _ => cases h
        | _ => cases tr <;> cases v <;> cases h
    | _ => cases h
  | .setIt i ix e, W, X, Γx, Γ, st, r, hS, ok, h => by
    cases st with
    | Assign l v pos =>
      cases l with
      | nil => cases h
      | cons t tr =>
        cases t with
        | Subscript o ixe p1 =>
          cases o with
          | Name x p0 =>
            cases tr with
            | cons _ _ => cases h
            | nil =>
              have h : (if (firmO (ckE fi.N fi.sc Γ e v) && decide (ckE fi.N fi.sc Γ ix ixe = some .fz) && wkB Γ Γx && decide (fi.N[i]? = some x) && visB fi.sc x && plainName x && decide (Γ[i]? = some .ow) && plainIx ixe) = true then some (some Γ) else none) = some r := h
              split at h
              · rename_i h0
                cases h
                refine ⟨?_, never_some⟩
                simp only [Bool.and_eq_true, decide_eq_true_eq] at h0
                obtain ⟨⟨⟨⟨⟨⟨⟨h1, h2⟩, h3⟩, h4⟩, h5⟩, h6⟩, h7⟩, h8⟩ := h0
                cases e1 : ckE fi.N fi.sc Γ e v with
                | none => rw [e1] at h1; cases h1
                | some kd =>
                  rw [e1] at h1
                  exact setIt_sound hS ok.1 ok.2 e1 h1 h2 h3 (by simp [h4, h5, h6]) h7 h8
              · cases h
          | _ => cases tr <;> cases h
        | _ => cases tr <;> cases h
    | _ => cases h
  | .app i e, W, X, Γx, Γ, st, r, hS, ok, h => by
    have h' : (match methP st with
      | some (x, m, ap, a, cp) => if (decide (m = ("append" : Str)) && methOk fi Γ Γx i x ap cp a && firmO (ckE fi.N fi.sc Γ e a)) = true then some (some Γ) else none
      | none => none) = some r := h
    clear h
    cases e0 : methP st with
    | none => rw [e0] at h'; cases h'
    | some q =>
      obtain ⟨x, m, ap, a, cp⟩ := q
      rw [e0] at h'
      obtain ⟨p, pos, rfl⟩ := methP_eq e0
      have h := h'
      dsimp only at h
      split at h
      · rename_i h0
        cases h
        refine ⟨?_, never_some⟩
        rw [Bool.and_eq_true, Bool.and_eq_true, decide_eq_true_eq] at h0
        obtain ⟨⟨h1, h2⟩, h3⟩ := h0
        subst h1
        cases e1 : ckE fi.N fi.sc Γ e a with
        | none => rw [e1] at h3; cases h3
        | some kd =>
          rw [e1] at h3
          obtain ⟨g1, g2, g3, g4, g5⟩ := methOk_ok h2
          exact meth_sound (sem := appTo) PySem.F.slot_list_append PySem.F.type_list_append (fun {X} => mt_append (X := X)) app_T hS (fun _ => rfl) ok g1 g2 g3 g4 g5 e1 h3
      · cases h
  | .ext i e, W, X, Γx, Γ, st, r, hS, ok, h => by
    have h' : (match methP st with
      | some (x, m, ap, a, cp) => if (decide (m = ("extend" : Str)) && methOk fi Γ Γx i x ap cp a && firmO (ckE fi.N fi.sc Γ e a)) = true then some (some Γ) else none
      | none => none) = some r := h
    clear h
    cases e0 : methP st with
    | none => rw [e0] at h'; cases h'
    | some q =>
      obtain ⟨x, m, ap, a, cp⟩ := q
      rw [e0] at h'
      obtain ⟨p, pos, rfl⟩ := methP_eq e0
      have h := h'
      dsimp only at h
      split at h
      · rename_i h0
        cases h
        refine ⟨?_, never_some⟩
        rw [Bool.and_eq_true, Bool.and_eq_true, decide_eq_true_eq] at h0
        obtain ⟨⟨h1, h2⟩, h3⟩ := h0
        subst h1
        cases e1 : ckE fi.N fi.sc Γ e a with
        | none => rw [e1] at h3; cases h3
        | some kd =>
          rw [e1] at h3
          obtain ⟨g1, g2, g3, g4, g5⟩ := methOk_ok h2
          exact meth_sound (sem := extTo) PySem.F.slot_list_extend PySem.F.type_list_extend (fun {X} => mt_extend (X := X)) ext_T hS (fun _ => rfl) ok g1 g2 g3 g4 g5 e1 h3
      · cases h
  | .rem i e, W, X, Γx, Γ, st, r, hS, ok, h => by
    have h' : (match methP st with
      | some (x, m, ap, a, cp) => if (decide (m = ("remove" : Str)) && methOk fi Γ Γx i x ap cp a && firmO (ckE fi.N fi.sc Γ e a)) = true then some (some Γ) else none
      | none => none) = some r := h
    clear h
    cases e0 : methP st with
    | none => rw [e0] at h'; cases h'
    | some q =>
      obtain ⟨x, m, ap, a, cp⟩ := q
      rw [e0] at h'
      obtain ⟨p, pos, rfl⟩ := methP_eq e0
      have h := h'
      dsimp only at h
      split at h
      · rename_i h0
        cases h
        refine ⟨?_, never_some⟩
        rw [Bool.and_eq_true, Bool.and_eq_true, decide_eq_true_eq] at h0
        obtain ⟨⟨h1, h2⟩, h3⟩ := h0
        subst h1
        cases e1 : ckE fi.N fi.sc Γ e a with
        | none => rw [e1] at h3; cases h3
        | some kd =>
          rw [e1] at h3
          obtain ⟨g1, g2, g3, g4, g5⟩ := methOk_ok h2
          exact meth_sound (sem := remFrom) PySem.F.slot_list_remove PySem.F.type_list_remove (fun {X} => mt_remove (X := X)) rem_T hS (fun _ => rfl) ok g1 g2 g3 g4 g5 e1 h3
      · cases h
  | .upd i e, W, X, Γx, Γ, st, r, hS, ok, h => by
    have h' : (match methP st with
      | some (x, m, ap, a, cp) => if (decide (m = ("update" : Str)) && methOk fi Γ Γx i x ap cp a && firmO (ckE fi.N fi.sc Γ e a)) = true then some (some Γ) else none
      | none => none) = some r := h
    clear h
    cases e0 : methP st with
    | none => rw [e0] at h'; cases h'
    | some q =>
      obtain ⟨x, m, ap, a, cp⟩ := q
      rw [e0] at h'
      obtain ⟨p, pos, rfl⟩ := methP_eq e0
      have h := h'
      dsimp only at h
      split at h
      · rename_i h0
        cases h
        refine ⟨?_, never_some⟩
        rw [Bool.and_eq_true, Bool.and_eq_true, decide_eq_true_eq] at h0
        obtain ⟨⟨h1, h2⟩, h3⟩ := h0
        subst h1
        cases e1 : ckE fi.N fi.sc Γ e a with
        | none => rw [e1] at h3; cases h3
        | some kd =>
          rw [e1] at h3
          obtain ⟨g1, g2, g3, g4, g5⟩ := methOk_ok h2
          exact upd_sound hS ok g1 g2 g3 g4 g5 e1 h3
      · cases h
  | .expr e, W, X, Γx, Γ, st, r, hS, ok, h => by
    cases st with
    | Expr v pos =>
      have h : (if ((ckE fi.N fi.sc Γ e v).isSome && wkB Γ Γx && !isComp v) = true then some (some Γ) else none) = some r := h
      split at h
      · rename_i h0
        cases h
        refine ⟨?_, never_some⟩
        simp only [Bool.and_eq_true, Bool.not_eq_true'] at h0
        obtain ⟨⟨h1, h2⟩, h3⟩ := h0
        cases e1 : ckE fi.N fi.sc Γ e v with
        | none => rw [e1] at h1; cases h1
        | some kd => exact expr_sound hS ok e1 h2 h3
      · cases h
    | _ => cases h
  | .iff c a b g, W, X, Γx, Γ, st, r, hS, ok, h => by
    cases st with
    | If ce ba bb pos =>
      have h : (if (ckT fi.N fi.sc Γ c ce && wkB Γ Γx) = true then (match ckSs fi Γx Γ a ba, ckSs fi Γx Γ b bb with
        | some none, some none => some none
        | some (some g1), some none => if wkB g1 g = true then some (some g) else none
        | some none, some (some g2) => if wkB g2 g = true then some (some g) else none
        | some (some g1), some (some g2) => if (wkB g1 g && wkB g2 g) = true then some (some g) else none
        | _, _ => none) else none) = some r := h
      split at h
      · rename_i h0
        rw [Bool.and_eq_true] at h0
        cases e1 : ckSs fi Γx Γ a ba with
        | none => rw [e1] at h; cases h
        | some ra =>
          cases e2 : ckSs fi Γx Γ b bb with
          | none => rw [e1, e2] at h; cases ra <;> cases h
          | some rb =>
            rw [e1, e2] at h
            obtain ⟨pa, na⟩ := evSs_sound a hS ok.2.1 e1
            obtain ⟨pb, nb⟩ := evSs_sound b hS ok.2.2 e2
            have main : (∀ g1, ra = some g1 → ∃ g2, r = some g2 ∧ wkB g1 g2 = true) ∧ (∀ g1, rb = some g1 → ∃ g2, r = some g2 ∧ wkB g1 g2 = true) ∧ (r = none → ra = none ∧ rb = none) := by
              cases ra with
              | none =>
                cases rb with
                | none =>
                  cases h
                  exact ⟨fun _ e => by (cases e), fun _ e => by (cases e), fun _ => ⟨rfl, rfl⟩⟩
                | some g2 =>
                  dsimp only at h
                  split at h
                  · rename_i w
                    cases h
                    exact ⟨fun _ e => by (cases e), fun g1 e => by cases e; exact ⟨g, rfl, w⟩, fun e => by (cases e)⟩
                  · cases h
              | some g1 =>
                cases rb with
                | none =>
                  dsimp only at h
                  split at h
                  · rename_i w
                    cases h
                    exact ⟨fun g1 e => by cases e; exact ⟨g, rfl, w⟩, fun _ e => by (cases e), fun e => by (cases e)⟩
                  · cases h
                | some g2 =>
                  dsimp only at h
                  split at h
                  · rename_i w
                    rw [Bool.and_eq_true] at w
                    cases h
                    exact ⟨fun g1 e => by cases e; exact ⟨g, rfl, w.1⟩, fun g1 e => by cases e; exact ⟨g, rfl, w.2⟩, fun e => by (cases e)⟩
                  · cases h
            refine ⟨iff_sound hS ok.1 h0.1 h0.2 pa pb main.1 main.2.1 na nb, fun er s s1 e => ?_⟩
            obtain ⟨n1, n2⟩ := main.2.2 er
            have e : (evT c s).st (fun t s1 => if t = true then evSs a s1 else evSs b s1) = .nx s1 := e
            cases e3 : evT c s with
            | ok t s2 =>
              rw [e3] at e
              have e : (if t = true then evSs a s2 else evSs b s2) = .nx s1 := e
              cases t with
              | true => exact na n1 _ _ e
              | false => exact nb n2 _ _ e
            | exc x s2 => rw [e3] at e; cases e
            | stuck => rw [e3] at e; cases e
      · cases h
    | _ => cases h
  | .for_ P as tg body g, W, X, Γx, Γ, st, r, hS, ok, h => by
    cases st with
    | For t it b el pos =>
      cases el with
      | cons _ _ => cases h
      | nil =>
        have h : (match P.rcg fi.sc t it with
          | some es => (match ckEs fi.N fi.sc Γ as es with
            | some ks => if (ks.all Kd.firm && wkB Γ Γx && wkB Γ g && !isSet it && ckTg fi.N fi.sc tg t && (tgS tg).all (fun i => !decide (i ∈ fi.L) && decide (i < Γ.length)) && contB (ckSs fi Γx (setAll g .fr (tgS tg)) body b) g) = true then some (some g) else none
            | none => none)
          | none => none) = some r := h
        cases e1 : P.rcg fi.sc t it with
        | none => rw [e1] at h; cases h
        | some es =>
          rw [e1] at h
          dsimp only at h
          cases e2 : ckEs fi.N fi.sc Γ as es with
          | none => rw [e2] at h; cases h
          | some ks =>
            rw [e2] at h
            dsimp only at h
            split at h
            · rename_i h0
              cases h
              refine ⟨?_, never_some⟩
              rw [Bool.and_eq_true, Bool.and_eq_true, Bool.and_eq_true, Bool.and_eq_true, Bool.and_eq_true, Bool.and_eq_true, Bool.not_eq_true'] at h0
              obtain ⟨⟨⟨⟨⟨⟨h1, h2⟩, h3⟩, h4⟩, h5⟩, h6⟩, h7⟩ := h0
              obtain ⟨c1, c2⟩ := tgs_cond h6
              obtain ⟨rb, e3, jb⟩ := contB_ok h7
              obtain ⟨pb, nb⟩ := evSs_sound body hS ok.2.2 e3
              exact for_sound (n := 0) hS ok.1 e1 ok.2.1 e2 h1 h2 h3 h4 h5 c1 c2 jb nb pb
            · cases h
    | _ => cases h
  | .forK i tg body g, W, X, Γx, Γ, st, r, hS, ok, h => by
    cases st with
    | For t it b el pos =>
      cases it with
      | Name x px =>
        cases el with
        | cons _ _ => cases h
        | nil =>
          have h : (if (decide (fi.N[i]? = some x) && visB fi.sc x && plainName x && decide (Γ[i]? = some .fr) && wkB Γ g && ckTg fi.N fi.sc tg t && (tgS tg).all (fun i => !decide (i ∈ fi.L) && decide (i < Γ.length)) && contB (ckSs fi Γx (setAll g .fr (tgS tg)) body b) g) = true then some (some g) else none) = some r := h
          split at h
          · rename_i h0
            cases h
            refine ⟨?_, never_some⟩
            rw [Bool.and_eq_true, Bool.and_eq_true, Bool.and_eq_true, Bool.and_eq_true, Bool.and_eq_true, decide_eq_true_eq] at h0
            obtain ⟨⟨⟨⟨⟨h1, h2⟩, h3⟩, h4⟩, h5⟩, h6⟩ := h0
            obtain ⟨c1, c2⟩ := tgs_cond h5
            obtain ⟨rb, e3, jb⟩ := contB_ok h6
            obtain ⟨pb, nb⟩ := evSs_sound body hS ok e3
            exact forK_sound hS h1 h2 h3 h4 c1 c2 jb nb pb
          · cases h
      | _ => cases el <;> cases h
    | _ => cases h
  | .whl c body g, W, X, Γx, Γ, st, r, hS, ok, h => by
    cases st with
    | While ce b el pos =>
      cases el with
      | cons _ _ => cases h
      | nil =>
        have h : (if (wkB Γ g && wkB g Γx && ckT fi.N fi.sc g c ce && contB (ckSs fi Γx g body b) g) = true then some (some g) else none) = some r := h
        split at h
        · rename_i h0
          cases h
          refine ⟨?_, never_some⟩
          rw [Bool.and_eq_true, Bool.and_eq_true, Bool.and_eq_true] at h0
          obtain ⟨⟨⟨h1, h2⟩, h3⟩, h4⟩ := h0
          obtain ⟨rb, e3, jb⟩ := contB_ok h4
          obtain ⟨pb, nb⟩ := evSs_sound body hS ok.2 e3
          exact whl_sound hS ok.1 h3 h1 h2 jb nb pb
        · cases h
    | _ => cases h
  | .ret e, W, X, Γx, Γ, st, r, hS, ok, h => by
    cases st with
    | Return v pos =>
      cases v with
      | none => cases h
      | some v =>
        have h : (if (wkB Γ Γx && wkB Γ fi.GL && retB fi Γ e (ckE fi.N fi.sc Γ e v)) = true then some none else none) = some r := h
        split at h
        · rename_i h0
          cases h
          rw [Bool.and_eq_true, Bool.and_eq_true] at h0
          cases e1 : ckE fi.N fi.sc Γ e v with
          | none => rw [e1] at h0; cases e <;> cases h0.2
          | some kd =>
            rw [e1] at h0
            refine ⟨ret_sound hS ok e1 h0.1.1 h0.1.2 h0.2, fun _ s s1 e2 => ?_⟩
            have e2 : (evE e s).st (fun d s1 => .ret d s1) = .nx s1 := e2
            cases e3 : evE e s <;> rw [e3] at e2 <;> cases e2
        · cases h
    | _ => cases h
  | .raise x, W, X, Γx, Γ, st, r, hS, ok, h => by
    cases st with
    | Raise e1 e2 pos =>
      cases e2 with
      | some _ => cases e1 with
        | none => cases h
        | some e => cases e <;> first | cases h | (rename_i f as ks _; cases f <;> first | cases h | (cases as <;> first | cases h | (cases ks <;> cases h)))
      | none =>
        cases e1 with
        | none => cases h
        | some e =>
          cases e with
          | Call f as ks p1 =>
            cases f with
            | Name n p =>
              cases as with
              | cons _ _ => cases h
              | nil =>
                cases ks with
                | cons _ _ => cases h
                | nil =>
                  have h : (if (decide (n = x.name) && glB fi.sc n && plainName n && wkB Γ Γx) = true then some none else none) = some r := h
                  split at h
                  · rename_i h0
                    cases h
                    rw [Bool.and_eq_true, Bool.and_eq_true, Bool.and_eq_true, decide_eq_true_eq] at h0
                    exact ⟨raise_sound hS ok h0.1.1.1 h0.1.1.2 h0.1.2 h0.2, fun _ s s1 e2 => by cases e2⟩
                  · cases h
            | _ => cases h
          | _ => cases h
    | _ => cases h
  | .tri body xs hs gx gj, W, X, Γx, Γ, st, r, hS, ok, h => by
    cases st with
    | Try b hds el fl pos =>
      cases el with
      | cons _ _ => cases h
      | nil =>
        cases fl with
        | cons _ _ => cases h
        | nil =>
          cases hds with
          | nil => cases h
          | cons h0 hr =>
            have h : (match ckSs fi gx Γ body b with
              | some r => if (ckHds fi gx gj hs (h0 :: hr) && wkB gx Γx && contB (some r) gj) = true then some (some gj) else none
              | none => none) = some r := h
            cases e1 : ckSs fi gx Γ body b with
            | none => rw [e1] at h; cases h
            | some rb =>
              rw [e1] at h
              dsimp only at h
              split at h
              · rename_i w
                cases h
                refine ⟨?_, never_some⟩
                rw [Bool.and_eq_true, Bool.and_eq_true] at w
                obtain ⟨⟨w1, w2⟩, w3⟩ := w
                obtain ⟨rb', e2, jb⟩ := contB_ok w3
                cases e2
                refine try_sound hS w1 ok.2.1 ok.2.2 w2 jb ?_ fun W1 Y hY => (evSs_sound body hY ok.1 e1).1
                exact (evSs_sound body hS ok.1 e1).2
              · cases h
    | _ => cases h
  | .pass, W, X, Γx, Γ, st, r, hS, ok, h => by
    cases st with
    | Pass pos =>
      cases h
      exact ⟨pass_sound, never_some⟩
    | _ => cases h
theorem evSs_sound : ∀ (cs : CSs) {W : WX} {X : Cx} {Γx Γ : List SK} {st : List Stmt} {r : Option (List SK)}, SOk C fi k W X → OkSs C k cs → ckSs fi Γx Γ cs st = some r → PSs X st (tSs C W fi Γx Γ r cs) ∧ Never r (fun s => evSs cs s)
  | .nil, W, X, Γx, Γ, st, r, hS, ok, h => by
    cases st with
    | nil =>
      cases h
      refine ⟨PSs.weak pss_nil fun D c H => ?_, never_some⟩
      rintro ⟨Z, s, env, q⟩
      obtain ⟨G2, e, q⟩ := q
      cases e
      exact q c H Z (.refl env)
    | cons _ _ => cases h
  | .cons s ss, W, X, Γx, Γ, st, r, hS, ok, h => by
    cases st with
    | nil => cases h
    | cons st sts =>
      have h : (match ckS fi Γx Γ s st with
        | some (some Γ1) => ckSs fi Γx Γ1 ss sts
        | some none => some none
        | none => none) = some r := h
      cases e1 : ckS fi Γx Γ s st with
      | none => rw [e1] at h; cases h
      | some r1 =>
        obtain ⟨p1, n1⟩ := evS_sound s hS ok.1 e1
        rw [e1] at h
        cases r1 with
        | none =>
          cases h
          have nn : Never none (fun s0 => evSs (.cons s ss) s0) := fun _ s0 s1 e => by
            have e : (match evS s s0 with
              | .nx s1 => evSs ss s1
              | o => o) = .nx s1 := e
            cases e2 : evS s s0 with
            | nx s2 => exact n1 rfl _ _ e2
            | _ => rw [e2] at e; cases e
          refine ⟨PSs.weak (pss_cons p1 (pss_never (sts := sts))) fun D c H => ?_, nn⟩
          rintro ⟨Z, s0, env, q⟩
          have ev : evSs (.cons s ss) s0 = match evS s s0 with
              | .nx s1 => evSs ss s1
              | o => o := rfl
          rw [ev] at q
          refine ⟨Z, s0, env, ?_⟩
          cases e2 : evS s s0 with
          | nx s2 => exact absurd e2 (n1 rfl _ _)
          | ret d s2 => rw [e2] at q; exact q
          | exc x s2 => rw [e2] at q; exact q
          | stuck => rw [e2] at q; exact q
        | some Γ1 =>
          have h : ckSs fi Γx Γ1 ss sts = some r := h
          obtain ⟨p2, n2⟩ := evSs_sound ss hS ok.2 h
          have nn : Never r (fun s0 => evSs (.cons s ss) s0) := fun er s0 s1 e => by
            have e : (match evS s s0 with
              | .nx s1 => evSs ss s1
              | o => o) = .nx s1 := e
            cases e2 : evS s s0 with
            | nx s2 => rw [e2] at e; exact n2 er _ _ e
            | _ => rw [e2] at e; cases e
          refine ⟨PSs.weak (pss_cons p1 p2) fun D c H => ?_, nn⟩
          rintro ⟨Z, s0, env, q⟩
          have ev : evSs (.cons s ss) s0 = match evS s s0 with
              | .nx s1 => evSs ss s1
              | o => o := rfl
          rw [ev] at q
          refine ⟨Z, s0, env, ?_⟩
          cases e2 : evS s s0 with
          | nx s2 =>
            rw [e2] at q
            exact ⟨Γ1, rfl, fun c1 H1 Z1 p => ⟨Z1, s2, p.env, q.from_ p⟩⟩
          | ret d s2 => rw [e2] at q; exact q
          | exc x s2 => rw [e2] at q; exact q
          | stuck => rw [e2] at q; exact q
  | .frz i ss, W, X, Γx, Γ, sts, r, hS, ok, h => by
    have h : (if (decide (Γ[i]? = some .ow) && !decide (i ∈ fi.L)) = true then ckSs fi Γx (Γ.set i .fr) ss sts else none) = some r := h
    split at h
    · rename_i h0
      rw [Bool.and_eq_true, decide_eq_true_eq, Bool.not_eq_true', decide_eq_false_iff_not] at h0
      obtain ⟨p1, n1⟩ := evSs_sound ss hS ok h
      refine ⟨PSs.weak p1 fun D c H => ?_, n1⟩
      rintro ⟨Z, s, env, q⟩
      obtain ⟨Z1, p⟩ := frz_env h0.1 h0.2 env
      exact ⟨Z1, s, p.env, endS.from_ (o := evSs ss s) p q⟩
    · cases h
end
end
end G
end
section
set_option maxRecDepth 10000
/-! A def keeps what its term comes to. -/
namespace G
open PySem L2
def lentL : List Bool → Nat → List Nat
  | [], _ => []
  | true :: l, k => k :: lentL l (k + 1)
  | false :: l, k => lentL l (k + 1)
def G0 (n : Nat) (l : List Bool) : List SK := (l.map fun b => if b = true then SK.ow else .fr) ++ List.replicate (n - l.length) .un
theorem lentL_mem : ∀ {l : List Bool} {k i : Nat}, i ∈ lentL l k ↔ ∃ j : Nat, i = k + j ∧ l[j]? = some true
  | [], k, i => by simp [lentL]
  | true :: l, k, i => by
    show i ∈ k :: lentL l (k + 1) ↔ _
    rw [List.mem_cons, lentL_mem]
    constructor
    · rintro (rfl | ⟨j, rfl, h⟩)
      · exact ⟨0, rfl, rfl⟩
      · exact ⟨j + 1, by omega, h⟩
    · rintro ⟨j, rfl, h⟩
      cases j with
      | zero => exact .inl rfl
      | succ j => exact .inr ⟨j, by omega, h⟩
  | false :: l, k, i => by
    show i ∈ lentL l (k + 1) ↔ _
    rw [lentL_mem]
    constructor
    · rintro ⟨j, rfl, h⟩
      exact ⟨j + 1, by omega, h⟩
    · rintro ⟨j, rfl, h⟩
      cases j with
      | zero => cases h
      | succ j => exact ⟨j, by omega, h⟩
section
variable {K : PySem.W.Frag} {Z Z1 : Addr → Prop} {H H1 : Hp}
theorem LArgs.at_ : ∀ {l : List Bool} {ds : List D} {vs : List V}, LArgs K Z H l ds vs → ds.length = l.length ∧ vs.length = l.length ∧
    ∀ (i : Nat) (b : Bool), l[i]? = some b → ∃ d v, ds[i]? = some d ∧ vs[i]? = some v ∧ if b = true then ∃ a, v = .ref a ∧ ¬ Z a ∧ Top K Z H a d else Rp K Z H d v
  | [], _, _, ⟨h1, h2⟩ => by
    subst h1; subst h2
    exact ⟨rfl, rfl, fun i b h => by simp at h⟩
  | b :: l, _, _, ⟨d, dr, v, vr, e1, e2, h1, h2⟩ => by
    subst e1; subst e2
    obtain ⟨l1, l2, h⟩ := LArgs.at_ h2
    refine ⟨by rw [List.length_cons, List.length_cons, l1], by rw [List.length_cons, List.length_cons, l2], fun i b' hi => ?_⟩
    cases i with
    | zero =>
      cases hi
      exact ⟨d, v, rfl, rfl, h1⟩
    | succ i => exact h i b' hi
theorem lents_mem : ∀ {l : List Bool} {vs : List V} {a : Addr}, a ∈ lents l vs ↔ ∃ i : Nat, l[i]? = some true ∧ vs[i]? = some (.ref a)
  | [], vs, a => by simp [lents]
  | b :: l, [], a => by cases b <;> simp [lents]
  | true :: l, v :: vs, a => by
    have step : (∃ i : Nat, (true :: l)[i]? = some true ∧ (v :: vs)[i]? = some (.ref a)) ↔ v = .ref a ∨ ∃ i : Nat, l[i]? = some true ∧ vs[i]? = some (.ref a) := by
      constructor
      · rintro ⟨i, h1, h2⟩
        cases i with
        | zero => exact .inl (by simpa using h2)
        | succ i => exact .inr ⟨i, h1, h2⟩
      · rintro (rfl | ⟨i, h1, h2⟩)
        · exact ⟨0, rfl, rfl⟩
        · exact ⟨i + 1, h1, h2⟩
    rw [step]
    cases v with
    | ref b =>
      show a ∈ b :: lents l vs ↔ _
      rw [List.mem_cons, lents_mem]
      constructor
      · rintro (h | h)
        · exact .inl (by rw [h])
        · exact .inr h
      · rintro (h | h)
        · cases h; exact .inl rfl
        · exact .inr h
    | _ =>
      show a ∈ lents l vs ↔ _
      rw [lents_mem]
      constructor
      · exact .inr
      · rintro (h | h)
        · cases h
        · exact h
  | false :: l, v :: vs, a => by
    have e : lents (false :: l) (v :: vs) = lents l vs := by cases v <;> rfl
    rw [e, lents_mem]
    constructor
    · rintro ⟨i, h1, h2⟩
      exact ⟨i + 1, h1, h2⟩
    · rintro ⟨i, h1, h2⟩
      cases i with
      | zero => cases h1
      | succ i => exact ⟨i, h1, h2⟩
theorem lents_inj : ∀ {l : List Bool} {vs : List V} {a : Addr} {i j : Nat}, (lents l vs).Nodup → l[i]? = some true → l[j]? = some true → vs[i]? = some (.ref a) → vs[j]? = some (.ref a) → i = j
  | [], vs, a, i, j, _, h, _, _, _ => by simp at h
  | b :: l, [], a, i, j, _, _, _, h, _ => by simp at h
  | true :: l, v :: vs, a, i, j, nd, h1, h2, h3, h4 => by
    cases i with
    | zero =>
      cases j with
      | zero => rfl
      | succ j =>
        have h3 : v = .ref a := by simpa using h3
        subst h3
        have nd : (a :: lents l vs).Nodup := nd
        exact absurd (lents_mem.mpr ⟨j, h2, h4⟩) (List.nodup_cons.mp nd).1
    | succ i =>
      cases j with
      | zero =>
        have h4 : v = .ref a := by simpa using h4
        subst h4
        have nd : (a :: lents l vs).Nodup := nd
        exact absurd (lents_mem.mpr ⟨i, h1, h3⟩) (List.nodup_cons.mp nd).1
      | succ j =>
        have nd : (lents l vs).Nodup := by
          cases v with
          | ref b => exact (List.nodup_cons.mp (show (b :: lents l vs).Nodup from nd)).2
          | _ => exact nd
        rw [lents_inj (l := l) (vs := vs) nd h1 h2 h3 h4]
  | false :: l, v :: vs, a, i, j, nd, h1, h2, h3, h4 => by
    have e : lents (false :: l) (v :: vs) = lents l vs := by cases v <;> rfl
    rw [e] at nd
    cases i with
    | zero => cases h1
    | succ i =>
      cases j with
      | zero => cases h2
      | succ j => rw [lents_inj (l := l) (vs := vs) nd h1 h2 h3 h4]
theorem G0_at {n : Nat} {l : List Bool} {i : Nat} : (G0 n l)[i]? = some .ow → l[i]? = some true := fun h => by
  unfold G0 at h
  by_cases hi : i < l.length
  · rw [List.getElem?_append_left (by rw [List.length_map]; exact hi), List.getElem?_map, List.getElem?_eq_getElem hi] at h
    rw [List.getElem?_eq_getElem hi]
    cases hb : l[i] with
    | true => rfl
    | false => rw [hb] at h; cases h
  · rw [List.getElem?_append_right (by rw [List.length_map]; omega), List.getElem?_replicate] at h
    split at h <;> cases h
theorem G0_fr {n : Nat} {l : List Bool} {i : Nat} : (G0 n l)[i]? = some .fr → l[i]? = some false := fun h => by
  unfold G0 at h
  by_cases hi : i < l.length
  · rw [List.getElem?_append_left (by rw [List.length_map]; exact hi), List.getElem?_map, List.getElem?_eq_getElem hi] at h
    rw [List.getElem?_eq_getElem hi]
    cases hb : l[i] with
    | false => rfl
    | true => rw [hb] at h; cases h
  · rw [List.getElem?_append_right (by rw [List.length_map]; omega), List.getElem?_replicate] at h
    split at h <;> cases h
theorem G0_ow {n : Nat} {l : List Bool} {i : Nat} (h : l[i]? = some true) : (G0 n l)[i]? = some .ow := by
  have hi : i < l.length := (List.getElem?_eq_some_iff.mp h).1
  unfold G0
  rw [List.getElem?_append_left (by rw [List.length_map]; exact hi), List.getElem?_map, h]
  rfl
theorem start_at {N : List Str} {vs : List V} {i : Nat} {v : V} (h : vs[i]? = some v) : (start N vs)[i]? = some (some v) := by
  have hi : i < vs.length := (List.getElem?_eq_some_iff.mp h).1
  unfold L2.start
  rw [List.getElem?_append_left (by rw [List.length_map]; exact hi), List.getElem?_map, h]
  rfl
theorem gt_start {ds : List D} {n i : Nat} {d : D} (h : ds[i]? = some d) : gt (ds ++ List.replicate n .non) i = d := by
  have hi : i < ds.length := (List.getElem?_eq_some_iff.mp h).1
  unfold gt
  rw [List.getElem?_append_left hi, h]
  rfl
theorem env_start {N : List Str} {l : List Bool} {ds : List D} {vs : List V} (hz : ∀ a, Z a → H a ≠ none) (h : LArgs K Z H l ds vs) (nd : (lents l vs).Nodup) (hn : l.length ≤ N.length) :
    Env K Z H (G0 N.length l) (ds ++ List.replicate (N.length - ds.length) .non) (start N vs) := by
  obtain ⟨l1, l2, h⟩ := h.at_
  refine ⟨⟨?_, ?_⟩, hz, fun i hi => ?_, fun i hi => ?_, fun i j a h1 h2 h3 h4 => ?_⟩
  · unfold L2.start
    simp; omega
  · unfold L2.start G0
    simp; omega
  · obtain ⟨d, v, h1, h2, h3⟩ := h i _ (G0_fr hi)
    exact ⟨v, start_at h2, by rw [gt_start h1]; exact h3⟩
  · obtain ⟨d, v, h1, h2, a, rfl, h3, h4⟩ := h i _ (G0_at hi)
    exact ⟨a, start_at h2, h3, by rw [gt_start h1]; exact h4⟩
  · obtain ⟨_, v1, _, g1, a1, rfl, _⟩ := h i _ (G0_at h1)
    obtain ⟨_, v2, _, g2, a2, rfl, _⟩ := h j _ (G0_at h2)
    rw [start_at g1] at h3
    rw [start_at g2] at h4
    cases h3; cases h4
    exact lents_inj nd (G0_at h1) (G0_at h2) g1 g2
theorem own_start {N : List Str} {l : List Bool} {ds : List D} {vs : List V} (h : LArgs K Z H l ds vs) {a : Addr} (w : Own (G0 N.length l) (start N vs) a) : ∃ i : Nat, l[i]? = some true ∧ vs[i]? = some (.ref a) := by
  obtain ⟨i, h1, h2⟩ := w
  obtain ⟨_, v, _, g1, b, rfl, _⟩ := (h.at_).2.2 i _ (G0_at h1)
  rw [start_at g1] at h2
  cases h2
  exact ⟨i, G0_at h1, g1⟩
theorem louts_of {c1 : St} {s1 : Sg} : ∀ {l : List Bool} {vs : List V} {k : Nat}, vs.length = l.length → (∀ (j : Nat), l[j]? = some true → ∃ a, vs[j]? = some (.ref a) ∧ ¬ Z1 a ∧ Top K Z1 H1 a (gt s1 (k + j))) →
    LOuts K Z1 H1 (lents l vs) ((lentL l k).map (gt s1))
  | [], _, _, _, _ => rfl
  | b :: l, [], k, h, _ => by cases h
  | true :: l, v :: vs, k, hl, h => by
    obtain ⟨a, e, h1, h2⟩ := h 0 rfl
    have e : v = .ref a := by simpa using e
    subst e
    refine ⟨gt s1 k, _, rfl, h1, h2, louts_of (l := l) (vs := vs) (k := k + 1) (c1 := c1) (by simpa using hl) fun j hj => ?_⟩
    obtain ⟨b, g1, g2, g3⟩ := h (j + 1) hj
    exact ⟨b, g1, g2, by rw [show k + 1 + j = k + (j + 1) from by omega]; exact g3⟩
  | false :: l, v :: vs, k, hl, h => by
    have e : lents (false :: l) (v :: vs) = lents l vs := by cases v <;> rfl
    rw [e]
    refine louts_of (l := l) (vs := vs) (k := k + 1) (c1 := c1) (by simpa using hl) fun j hj => ?_
    obtain ⟨b, g1, g2, g3⟩ := h (j + 1) hj
    exact ⟨b, g1, g2, by rw [show k + 1 + j = k + (j + 1) from by omega]; exact g3⟩
end
def ckF (fi : FI) (ps : List Str) (lend : List Bool) (cs : CSs) (body : List Stmt) : Bool :=
  decide (fi.L = lentL lend 0) && decide (lend.length = ps.length) && (match ckSs fi fi.GL (G0 fi.N.length lend) cs body with
    | some none => true
    | some (some g) => !fi.nw && wkB g fi.GL
    | none => false)
def fnOf (x : Str) (fi : FI) (lend : List Bool) (cs : CSs) : Fn := ⟨x, lend, fi.nw, evF cs fi.N.length fi.L⟩
theorem fn_ok {C : Cn} {fi : FI} {k : Nat} {x qual : Str} {ps : List Str} {params : Arguments} {body : List Stmt} {f : Addr} {fd : FuncData} {lend : List Bool} {cs : CSs}
    (F : FunD C.K x qual params body fi.sc [] [] f fd) (S : FnScope fi.N ps fi.sc) (hc : ckF fi ps lend cs body = true) (ok : OkSs C k cs) : FnOk C.prog C.w C.K C.mg C.base (L2.CX C.prog C.w) (k + 1) f fd ps (spOf C (fnOf x fi lend cs)) := by
  unfold ckF at hc
  rw [Bool.and_eq_true, Bool.and_eq_true, decide_eq_true_eq, decide_eq_true_eq] at hc
  obtain ⟨⟨hL, hp⟩, hc⟩ := hc
  obtain ⟨r, hck, hr⟩ : ∃ r, ckSs fi fi.GL (G0 fi.N.length lend) cs body = some r ∧ ∀ g, r = some g → fi.nw = false ∧ wkB g fi.GL = true := by
    cases e : ckSs fi fi.GL (G0 fi.N.length lend) cs body with
    | none => rw [e] at hc; cases hc
    | some r =>
      rw [e] at hc
      refine ⟨r, rfl, fun g hg => ?_⟩
      subst hg
      have hc : (!fi.nw && wkB g fi.GL) = true := hc
      rw [Bool.and_eq_true, Bool.not_eq_true'] at hc
      exact hc
  have hpl : ps.length ≤ fi.N.length := by have := congrArg List.length S.pre; rw [List.length_take] at this; omega
  refine F.ok S (fun vs H Q E h => ?_) (fun cdv A outer s H vs Q E hr0 h => ?_)
  · obtain ⟨Z, ds, _, h, _⟩ := h
    exact (h.at_).2.1.trans hp
  · have hS : SOk C fi k (fun cls d _ H => E cls d H) (cxOf (L2.CX C.prog C.w) C.prog C.w C.K C.mg C.base fi.N qual fi.sc f cdv A outer s H E) :=
      ⟨⟨rfl, rfl, S.nd, rfl, rfl, hr0, takes_of rfl rfl rfl rfl⟩, rfl, rfl, fun _ => rfl, passes_of rfl, S.kind⟩
    refine ⟨_, (evSs_sound cs hS ok hck).1, ?_⟩
    obtain ⟨Z, ds, hz, hla, nd, hq⟩ := h
    have hla : LArgs C.K Z H lend ds vs := hla
    have nd : (lents lend vs).Nodup := nd
    have env := env_start (N := fi.N) hz hla nd (by omega)
    refine ⟨Z, _, env, ?_⟩
    obtain ⟨l1, l2, hat⟩ := hla.at_
    -- at the end
    have fin : ∀ (s1 : Sg) (c1 : St) (H1 : Hp) (Z1 : Addr → Prop), PostS C.K fi.L Z H (G0 fi.N.length lend) (start fi.N vs) fi.GL s1 c1 Z1 H1 → PostC C.K (lents lend vs) Z H (outsAt fi.L s1) Z1 H1 := by
      intro s1 c1 H1 Z1 p
      have slot : ∀ j : Nat, lend[j]? = some true → ∃ a, vs[j]? = some (.ref a) ∧ ¬ Z1 a ∧ Top C.K Z1 H1 a (gt s1 j) := fun j hj => by
        obtain ⟨_, v, _, g1, a, rfl, _⟩ := hat j _ hj
        have hm : j ∈ fi.L := by rw [hL]; exact lentL_mem.mpr ⟨j, by omega, hj⟩
        have hjl : j < lend.length := (List.getElem?_eq_some_iff.mp hj).1
        have hgl : fi.GL[j]? = some .ow := GL_at hm (by unfold FI.GL; rw [List.length_map, List.length_range]; omega)
        obtain ⟨b, k1, k2, k3⟩ := p.env.ow j hgl
        rw [p.kp j hm, start_at g1] at k1
        cases k1
        exact ⟨a, g1, k2, k3⟩
      have notZ : ∀ a, Own (G0 fi.N.length lend) (start fi.N vs) a → ¬ Z1 a := fun a w => by
        obtain ⟨i, h1, h2⟩ := own_start hla w
        obtain ⟨b, g1, g2, _⟩ := slot i h1
        rw [h2] at g1; cases g1
        exact g2
      refine ⟨p.zz, fun a h => ?_, p.env.zd, fun a u h hn => p.pr a u h fun w => hn ?_, ?_⟩
      · rcases p.zn a h with h1 | h1 | h1
        · exact .inl h1
        · exact .inr h1
        · exact absurd h (notZ a h1)
      · exact lents_mem.mpr (own_start hla w)
      · have e : outsAt fi.L s1 = (lentL lend 0).map (gt s1) := by rw [hL]; rfl
        rw [e]
        exact louts_of (c1 := c1) l2 fun j hj => by rw [Nat.zero_add]; exact slot j hj
    have e : (fnOf x fi lend cs).sem ds = match evSs cs (ds ++ List.replicate (fi.N.length - ds.length) .non) with
      | .nx s => .ret .non (outsAt fi.L s)
      | .ret d s => .ret d (outsAt fi.L s)
      | .exc x s => .exc x (outsAt fi.L s)
      | .stuck => .stuck := rfl
    rw [e] at hq
    cases e2 : evSs cs (ds ++ List.replicate (fi.N.length - ds.length) .non) with
    | stuck => rw [e2] at hq; exact hq.elim
    | exc x s1 =>
      rw [e2] at hq
      exact fun c1 H1 Z1 p => hq H1 Z1 (fin s1 c1 H1 Z1 p)
    | nx s1 =>
      rw [e2] at hq
      cases r with
      | none => exact absurd e2 ((evSs_sound cs hS ok hck).2 rfl _ _)
      | some g =>
        obtain ⟨w1, w2⟩ := hr g rfl
        refine ⟨g, rfl, fun c1 H1 Z1 p => hq .non H1 Z1 (fin s1 c1 H1 Z1 (p.weak w2)) ?_⟩
        show KF C.K fi.nw H Z1 H1 .non .non
        rw [w1]
        unfold KF
        rw [if_neg Bool.false_ne_true]
        exact rfl
    | ret d s1 =>
      rw [e2] at hq
      intro v c1 H1 Z1 p kr
      refine hq v H1 Z1 (fin s1 c1 H1 Z1 p) ?_
      show KF C.K fi.nw H Z1 H1 d v
      unfold KR at kr
      unfold KF
      cases hn : fi.nw with
      | false => rw [hn] at kr; exact kr
      | true =>
        rw [hn, if_pos rfl] at kr
        rw [if_pos rfl]
        obtain ⟨a, k1, k2, k3, k4, k5⟩ := kr
        refine ⟨a, k1, ?_, k3, k4⟩
        rcases k2 with k2 | k2
        · exfalso
          obtain ⟨i, h1, h2⟩ := own_start hla k2
          have hm : i ∈ fi.L := by rw [hL]; exact lentL_mem.mpr ⟨i, by omega, h1⟩
          refine k5 i hm ?_
          rw [p.kp i hm, start_at h2, k1]
        · exact k2
theorem fn_good {C : Cn} {fi : FI} {k : Nat} {x qual : Str} {ps : List Str} {params : Arguments} {body : List Stmt} {f : Addr} {fd : FuncData} {lend : List Bool} {cs : CSs}
    (F : FunD C.K x qual params body fi.sc [] [] f fd) (S : FnScope fi.N ps fi.sc) (hg : C.mg x = some (.ref f)) (hb : Binds C.K fd ps []) (hc : ckF fi ps lend cs body = true) (ok : OkSs C k cs) : FnGood C (k + 1) (fnOf x fi lend cs) :=
  ⟨f, fd, ps, fn_ok F S hc ok, hg, F.kp, hb⟩
end G
end
section
set_option maxRecDepth 10000
/-! Tuples that are made: each stands with its object, which has no dict of its own. dict(..) of a tuple of pairs. -/
namespace G
open PySem L2 PySem.Spec
open PyProof.Rows hiding St
section
variable {X : Cx}
/-- a new tuple -/
def newX (H : Hp) (Q : VK) (xs : List V) : Prop := ∀ p (o : Obj), H p = none → o.dict = none → Q (.ref p) (upd H p (.frz o (.tup xs)))
theorem lay_tup {pins : List (Addr × Obj)} {σ : St} {H : Hp} {s : Shared} {xs : List V} {its : List Value} {t' : Nat} {Q : VK} (I : Inv X pins σ H s) (r : Vals xs its) (hz : xs.length ≤ sizeLine) (q : newX H Q xs) :
    EP X pins σ Q (.ref s.heap.objs.size) { s with heap := s.heap.push { cls := .type "tuple", data := .seq its.toArray }, toks := t' } := by
  refine ⟨.ref s.heap.objs.size, _, I.laid (t' := t') (o := .frz { cls := .type "tuple", data := .seq its.toArray } (.tup xs)) (fun b ob q => Heap.get?_push_of_some _ q) (Nat.le_refl _) ?_, rfl, q _ _ (I.hok.fresh (Nat.le_refl _)) rfl⟩
  exact ⟨Heap.get?_push_size _ rfl, hz, its, r, IsTup.new _ _⟩
def rCatX (K : PySem.W.Frag) : R2 := fun x y H Q => ∃ a b xs ys, x = .ref a ∧ y = .ref b ∧ SqT K H a xs ∧ SqT K H b ys ∧ xs.length + ys.length ≤ sizeLine ∧
  (xs = [] → Q (.ref b) H) ∧ (xs ≠ [] → ys = [] → Q (.ref a) H) ∧ (xs ≠ [] → ys ≠ [] → newX H Q (xs ++ ys))
theorem op_catX : OpR X (binaryOp .Add) (rCatX X.K) := by
  intro pins s σ H x y v u Q I rx ry h
  obtain ⟨a, b, xs, ys, rfl, rfl, ha, hb, hz, q0, q1, q2⟩ := h
  cases rx
  cases ry
  obtain ⟨its, r1, p1, _⟩ := I.tuple ha
  obtain ⟨its2, r2, p2, _⟩ := I.tuple hb
  by_cases hx : xs = []
  · subst hx
    cases r1
    exact cat_tup0 p1 p2 ⟨.ref b, H, I, rfl, q0 rfl⟩
  · refine HT.cat_tup p1 p2 (fun z => hx (r1.nil_iff.mp z)) (fun z => ⟨.ref a, H, I, rfl, q1 hx (r2.nil_iff.mp z)⟩) (fun z => ?_) (by rw [← r1.length, ← r2.length]; exact hz)
    have := lay_tup (t' := s.toks) I (r1.append r2) (by rw [List.length_append]; exact hz) (q2 hx fun w => z (r2.nil_iff.mpr w))
    exact this
def rSlX2 (K : PySem.W.Frag) : V → Option Int → Option Int → Hp → VK → Prop := fun x lo hi H Q => ∃ a xs, x = .ref a ∧ SqT K H a xs ∧
  (HT.sIx xs.length 0 lo = 0 ∧ HT.sIx xs.length xs.length hi = xs.length → Q (.ref a) H) ∧ (¬ (HT.sIx xs.length 0 lo = 0 ∧ HT.sIx xs.length xs.length hi = xs.length) → newX H Q (cutV xs lo hi))
theorem sl_tupX : SlR X (rSlX2 X.K) := by
  intro pins s σ H x v vl vu lo hi sl Q I rx hs pl pu h
  obtain ⟨a, xs, rfl, hx, q1, q2⟩ := h
  cases rx
  obtain ⟨its, r, ht, hz⟩ := I.tuple hx
  have hlen : its.toArray.size = xs.length := by rw [List.size_toArray]; exact r.length.symm
  refine ⟨"tuple", _, PyProof.Rows.slot_tuple_getitem.lookup, ht.typeIs, ?_⟩
  by_cases hw : HT.sIx xs.length 0 lo = 0 ∧ HT.sIx xs.length xs.length hi = xs.length
  · exact getItem_tuple_whole ht hs pl pu (by rw [hlen]; exact hw) ⟨.ref a, H, I, rfl, q1 hw⟩
  · refine HT.getItem_tuple_cut ht hs pl pu (by rw [hlen]; exact hw) ?_ (by rw [hlen]; exact hz)
    rw [hlen]
    have := lay_tup (t' := s.toks) I ((r.drop (HT.sIx xs.length 0 lo)).take (HT.sIx xs.length xs.length hi - HT.sIx xs.length 0 lo)) (Nat.le_trans (cutV_length xs lo hi) hz) (q2 hw)
    exact this
theorem call_tuple_ofX : CallR X (.type "tuple") (fun xs H Q => ∃ p ys, xs = [.ref p] ∧ ((SqL X.K H p ys ∧ newX H Q ys) ∨ (SqT X.K H p ys ∧ Q (.ref p) H))) := by
  intro pins s σ H xs us Q I r h
  obtain ⟨p, ys, rfl, h⟩ := h
  obtain ⟨u, rfl, rx⟩ := vals1 r
  cases rx
  rcases h with ⟨hq, q⟩ | ⟨hq, q⟩
  · obtain ⟨its, r', pl, hz⟩ := I.list hq
    have hlen := r'.length
    have l63 := line63
    refine call_tuple_list pl.isList (fun h' kp => ?_) (by simp only [List.size_toArray] <;> omega)
    have I1 : Inv X pins σ H { s with heap := h' } := I.kept (t' := s.toks) kp
    exact lay_tup (t' := s.toks) I1 r' hz q
  · obtain ⟨its, r', pl, hz⟩ := I.tuple hq
    exact call_tuple_same pl ⟨.ref p, H, I, rfl, q⟩
theorem pe_tupX {es : List Expr} {t : TA} {R : List V → Hp → VK → Prop} {x1 : Nat} {pos : Pos} (h : PA X es t) (w : ∀ xs H Q, R xs H Q → xs.length ≤ sizeLine ∧ newX H Q xs) : PE X (.Tuple es x1 pos) (fun σ H Q => t σ H fun xs H1 => R xs H1 Q) := by
  refine ⟨fun pins s σ H Q I hq => ?_⟩
  refine wpAny_Tuple_spliced (thn (h.run pos pins s σ H _ I hq) fun us s1 ⟨xs, H1, I1, r, rr⟩ => ?_)
  obtain ⟨z, q⟩ := w _ _ _ rr
  refine ⟨by rw [← r.length]; exact z, ?_⟩
  exact lay_tup (t' := s1.toks) I1 r z q
/-- dict(t), t a tuple of pairs -/
theorem call_dictT (hcalm : X.calm = true) : CallR X (.type "dict") (fun xs H Q => ∃ (a : Addr) (o : Obj) (ps : List Addr) (kvs : List (Ky × V)), xs = [.ref a] ∧ H a = some (.frz o (.tup (ps.map V.ref))) ∧ o.dict = none ∧ Paired (fun p kv => SqT X.K H p [kV kv.1, kv.2]) ps kvs ∧
    ∀ p, H p = none → Q (.ref p) (upd H p (.dK (mergeK [] kvs)))) := by
  intro pins s σ H xs us Q I r q
  obtain ⟨a, o, ps, kvs, ex, hq, hdn, hp, q⟩ := q
  subst ex
  obtain ⟨u, eu, rx⟩ := vals1 r
  subst eu
  cases rx
  obtain ⟨ho, hz, its, rv, o2, ho2, hc, n, hdat⟩ := (show ObjOk X.prog X.w H s.heap a (.frz o (.tup (ps.map V.ref))) from I.hok a _ hq)
  rw [ho] at ho2
  cases ho2
  have ei := refs_at rv
  subst ei
  rw [List.length_map] at hz
  obtain ⟨prs, rel, hl, hpr⟩ := pairs_of I hp
  -- each pair's key and value as they stand
  have hex : ∀ j : Nat, ∃ u : Value, ∀ (q : Ky × Value), prs[j]? = some q → ∃ b : Addr, ps[j]? = some b ∧ IsTup s.heap b #[u, q.2] ∧ keyIs q.1 u = true := fun j => by
    cases e : prs[j]? with
    | none => exact ⟨.none, fun q h => by cases h⟩
    | some q =>
      obtain ⟨b, u, h1, h2, h3⟩ := hpr j q e
      exact ⟨u, fun q' h => by cases h; exact ⟨b, h1, h2, h3⟩⟩
  let kf : Nat → Value := fun j => (hex j).choose
  have hkf : ∀ j (q : Ky × Value), prs[j]? = some q → ∃ b : Addr, ps[j]? = some b ∧ IsTup s.heap b #[kf j, q.2] ∧ keyIs q.1 (kf j) = true := fun j => (hex j).choose_spec
  let vps : List (Value × Value) := (List.range prs.length).map fun j => (kf j, ((prs[j]?).map (·.2)).getD .none)
  have hvl : vps.length = ps.length := by simp [vps, hl]
  have hvp : ∀ j k v, vps[j]? = some (k, v) → ∃ q, prs[j]? = some q ∧ k = kf j ∧ v = q.2 := fun j k v e => by
    have hj : j < prs.length := by
      have := (List.getElem?_eq_some_iff.mp e).1
      rw [hvl] at this; omega
    rw [List.getElem?_map, List.getElem?_range hj] at e
    obtain ⟨q, hq⟩ : ∃ q, prs[j]? = some q := ⟨prs[j], List.getElem?_eq_getElem hj⟩
    have e : some (kf j, ((prs[j]?).map (·.2)).getD .none) = some (k, v) := e
    rw [hq] at e
    cases e
    exact ⟨q, hq, rfl, rfl⟩
  refine PySem.call_dict_pairs (knd := mixKind X.prog X.w) (kvs := prs) (PairArg.tuple a (ps.map Value.ref).toArray (fun j => (ps[j]?).getD 0) vps) (I.ok.hd hcalm) ⟨⟨o, n, ho, hc, hdn, hdat⟩, ?_, ?_⟩ ?_ (by rw [hvl]; exact hz) fun h' tk hd' k => ?_
  · simp [hvl]
  · intro j k v e
    obtain ⟨q, hq1, rfl, rfl⟩ := hvp j k v e
    obtain ⟨b, h1, h2, h3⟩ := hkf j q hq1
    refine ⟨by simp [h1], ?_⟩
    show PairAt s.heap ((ps[j]?).getD 0) _ _
    rw [h1]
    obtain ⟨ob, g1, g2, g3, g4⟩ := h2
    exact .inl ⟨ob, g1, g2, g3, g4⟩
  · refine ⟨by rw [hvl, hl], fun i key v e => ?_⟩
    obtain ⟨q, hq1, rfl, rfl⟩ := hvp i key v e
    obtain ⟨b, h1, h2, h3⟩ := hkf i q hq1
    exact ⟨q.1, hq1, h3⟩
  · have hm : (s.heap.objs.size == sysModules) = false := beq_eq_false_iff_ne.mpr (Nat.ne_of_gt I.big)
    have hlen : (mergeK [] kvs).length ≤ sizeLine := by
      refine Nat.le_trans (length_mergeK kvs []) ?_
      rw [List.length_nil, Nat.zero_add, rel.length, hl]
      exact hz
    exact ⟨.ref s.heap.objs.size, upd H s.heap.objs.size (.dK (mergeK [] kvs)), I.laid (t' := tk) (fun b o e => k b o (by simp) e) (Nat.le_refl _) (show ObjOk X.prog X.w _ _ _ (.dK (mergeK [] kvs)) from ⟨hlen, hm, merged [] prs, KV.merge rel .nil, hd'⟩), rfl, q _ (I.hok.fresh (Nat.le_refl _))⟩
end
end G
end
section
set_option maxRecDepth 10000
/-! Strict things: what they need. Numbers, comparisons, constants. -/
namespace G
open PySem L2
/-- a strict thing by values -/
def rV (C : Cn) (P : Pr) (vs : List V) (H : Hp) (Q : VK) : Prop := ∃ Z ds d, (∀ a, Z a → H a ≠ none) ∧ Args C.K Z H P.esc 0 ds vs ∧ P.sem ds = some d ∧ ∀ v H2 Z2, PRes C.K P.nw Z H d v Z2 H2 → Q v H2
section
variable {X : Cx}
theorem OpR.weak {f : Value → Value → Sem Value} {r r' : R2} (h : OpR X f r) (w : ∀ x y H Q, r' x y H Q → r x y H Q) : OpR X f r' := fun pins s σ H x y v u Q I rx ry q => h pins s σ H x y v u Q I rx ry (w x y H Q q)
theorem OpR.both {f : Value → Value → Sem Value} {r r' : R2} (h : OpR X f r) (h' : OpR X f r') : OpR X f (fun x y H Q => r x y H Q ∨ r' x y H Q) := fun pins s σ H x y v u Q I rx ry q => q.elim (h pins s σ H x y v u Q I rx ry) (h' pins s σ H x y v u Q I rx ry)
theorem UnR.weak {f : Value → Sem Value} {r r' : V → Hp → VK → Prop} (h : UnR X f r) (w : ∀ x H Q, r' x H Q → r x H Q) : UnR X f r' := fun pins s σ H x v Q I rx q => h pins s σ H x v Q I rx (w x H Q q)
theorem CallR.weak {f : Value} {r r' : List V → Hp → VK → Prop} (h : CallR X f r) (w : ∀ x H Q, r' x H Q → r x H Q) : CallR X f r' := fun pins s σ H x v Q I rx q => h pins s σ H x v Q I rx (w x H Q q)
theorem CallR.both {f : Value} {r r' : List V → Hp → VK → Prop} (h : CallR X f r) (h' : CallR X f r') : CallR X f (fun x H Q => r x H Q ∨ r' x H Q) := fun pins s σ H x v Q I rx q => q.elim (h pins s σ H x v Q I rx) (h' pins s σ H x v Q I rx)
theorem IxR.weak {r r' : R2} (h : IxR X r) (w : ∀ x y H Q, r' x y H Q → r x y H Q) : IxR X r' := fun a b pins s σ H x y v u Q I rx ry q => h a b pins s σ H x y v u Q I rx ry (w x y H Q q)
theorem MtR.weak {id : String} {r r' : V → List V → Hp → VK → Prop} (h : MtR X id r) (w : ∀ x xs H Q, r' x xs H Q → r x xs H Q) : MtR X id r' := fun pins s σ H x xs v us Q I rx ry q => h pins s σ H x xs v us Q I rx ry (w x xs H Q q)
end
section
variable {K : PySem.W.Frag} {Z : Addr → Prop} {H : Hp}
theorem PRes.same {d : D} {v : V} (hz : ∀ a, Z a → H a ≠ none) (h : Rp K Z H d v) : PRes K false Z H d v Z H := ⟨fun _ h => h, fun _ h => .inl h, hz, fun _ _ h => h, h⟩
theorem new_mono {p : Addr} {o : HO} (hp : H p = none) : Mono Z H Z (upd H p o) := ⟨fun _ h => h, fun a u h _ => by rw [upd_ne fun z => by rw [z, hp] at h; cases h]; exact h⟩
theorem new_keep {p : Addr} {o : HO} (hp : H p = none) : ∀ a u, H a = some u → (upd H p o) a = some u := fun a u h => by rw [upd_ne fun z => by rw [z, hp] at h; cases h]; exact h
theorem new_zd {p : Addr} {o : HO} (hz : ∀ a, Z a → H a ≠ none) : ∀ a, Z a → (upd H p o) a ≠ none := fun a h => by
  by_cases e : a = p
  · rw [e, upd_same]; exact fun z => nomatch z
  · rw [upd_ne e]; exact hz a h
theorem PRes.newT {ds : List D} {xs : List V} {p : Addr} {o : Obj} (hz : ∀ a, Z a → H a ≠ none) (hp : H p = none) (hd : o.dict = none) (h : RpL K Z H ds xs) : PRes K false Z H (.tup ds) (.ref p) Z (upd H p (.frz o (.tup xs))) :=
  ⟨fun _ h => h, fun _ h => .inl h, new_zd hz, new_keep hp, ⟨p, xs, rfl, ⟨o, upd_same, hd⟩, RpL.mono (new_mono hp) _ _ h⟩⟩
/-- a new list or dict: one's own, or given away at once -/
theorem PRes.new {nw : Bool} {d : D} {p : Addr} {o : HO} (hz : ∀ a, Z a → H a ≠ none) (hp : H p = none) (h : Top K Z (upd H p o) p d) : ∃ Z2, PRes K nw Z H d (.ref p) Z2 (upd H p o) := by
  cases nw with
  | true => exact ⟨Z, fun _ h => h, fun _ h => .inl h, new_zd hz, new_keep hp, p, rfl, hp, fun z => hz p z hp, h⟩
  | false =>
    refine ⟨fun a => Z a ∨ a = p, fun _ h => .inl h, fun a h => h.imp id fun e => by rw [e]; exact hp, fun a h => ?_, new_keep hp, ?_⟩
    · rcases h with h | h
      · exact new_zd hz a h
      · rw [h, upd_same]; exact fun z => nomatch z
    · exact Top.give (Z := fun a => Z a ∨ a = p) (.inr rfl) (Top.mono ⟨fun _ h => .inl h, fun _ _ h _ => h⟩ rfl h)
theorem PRes.newL {nw : Bool} {ds : List D} {xs : List V} {p : Addr} (hz : ∀ a, Z a → H a ≠ none) (hp : H p = none) (h : RpL K Z H ds xs) : ∃ Z2, PRes K nw Z H (.lst ds) (.ref p) Z2 (upd H p (.lst xs)) :=
  PRes.new hz hp ⟨xs, upd_same, RpL.mono (new_mono hp) _ _ h⟩
theorem Args.one {esc : Nat → Bool} {x : D} {vs : List V} (h : Args K Z H esc 0 [x] vs) : ∃ v, vs = [v] ∧ (if esc 0 = true then Rp K Z H x v else Vw K Z H x v) := by
  obtain ⟨v, r, e, h1, h2⟩ := h
  have h2 : r = [] := h2
  subst h2
  exact ⟨v, e, h1⟩
theorem Args.two {esc : Nat → Bool} {x y : D} {vs : List V} (h : Args K Z H esc 0 [x, y] vs) : ∃ v w, vs = [v, w] ∧ (if esc 0 = true then Rp K Z H x v else Vw K Z H x v) ∧ (if esc 1 = true then Rp K Z H y w else Vw K Z H y w) := by
  obtain ⟨v, r, e, h1, w, r2, e2, h2, h3⟩ := h
  have h3 : r2 = [] := h3
  subst h3; subst e2
  exact ⟨v, w, e, h1, h2⟩
theorem Args.three {esc : Nat → Bool} {x y z : D} {vs : List V} (h : Args K Z H esc 0 [x, y, z] vs) : ∃ v w u, vs = [v, w, u] ∧ (if esc 0 = true then Rp K Z H x v else Vw K Z H x v) ∧ (if esc 1 = true then Rp K Z H y w else Vw K Z H y w) ∧ (if esc 2 = true then Rp K Z H z u else Vw K Z H z u) := by
  obtain ⟨v, r, e, h1, w, r2, e2, h2, u, r3, e3, h3, h4⟩ := h
  have h4 : r3 = [] := h4
  subst h4; subst e3; subst e2
  exact ⟨v, w, u, e, h1, h2, h3⟩
end
def sem1 (f : D → Option D) : List D → Option D
  | [x] => f x
  | _ => none
def sem2 (f : D → D → Option D) : List D → Option D
  | [x, y] => f x y
  | _ => none
def sem3 (f : D → D → D → Option D) : List D → Option D
  | [x, y, z] => f x y z
  | _ => none
@[simp] theorem sem1_eq (f : D → Option D) (x : D) : sem1 f [x] = f x := rfl
@[simp] theorem sem2_eq (f : D → D → Option D) (x y : D) : sem2 f [x, y] = f x y := rfl
@[simp] theorem sem3_eq (f : D → D → D → Option D) (x y z : D) : sem3 f [x, y, z] = f x y z := rfl
theorem sem1_of {f : D → Option D} {ds : List D} {d : D} (h : sem1 f ds = some d) : ∃ x, ds = [x] ∧ f x = some d := by
  match ds, h with
  | [x], h => exact ⟨x, rfl, h⟩
theorem sem2_of {f : D → D → Option D} {ds : List D} {d : D} (h : sem2 f ds = some d) : ∃ x y, ds = [x, y] ∧ f x y = some d := by
  match ds, h with
  | [x, y], h => exact ⟨x, y, rfl, h⟩
theorem sem3_of {f : D → D → D → Option D} {ds : List D} {d : D} (h : sem3 f ds = some d) : ∃ x y z, ds = [x, y, z] ∧ f x y z = some d := by
  match ds, h with
  | [x, y, z], h => exact ⟨x, y, z, rfl, h⟩
/-! ### constants -/
def kPr (k : Ct) : Pr where
  rcg := fun _ e => match e with
    | .Constant c _ _ => if ctB k c = true then some [] else none
    | _ => none
  sem := fun ds => match ds with
    | [] => some k.d
    | _ => none
@[simp] theorem kPr_sem (k : Ct) : (kPr k).sem [] = some k.d := rfl
theorem kPr_ok {C : Cn} (k : Ct) : (kPr k).Ok C where
  pe := by
    intro N sc n W X hX e es ts h1 h2 h3
    cases e with
    | Constant c j p =>
      have h1 : (if ctB k c = true then some ([] : List Expr) else none) = some es := h1
      split at h1
      · rename_i hc
        cases h1
        cases ts with
        | cons _ _ => exact h2.elim
        | nil =>
          refine PE.weak (ct_pe hc) fun c H Q => ?_
          rintro ⟨Z, ds, d, hz, ha, hs, q⟩
          cases ds with
          | nil =>
            cases hs
            exact q _ _ _ (PRes.same hz (ct_rp k))
          | cons _ _ => cases hs
      · cases h1
    | _ => cases h1
  nc := by
    intro sc e es h
    cases e <;> first | rfl | cases h
  bl := fun h => by cases h
  pt := fun h => by cases h
/-! ### two-place operations -/
def binPr (op : Operator) (f : D → D → Option D) (nw : Bool := false) : Pr where
  rcg := fun _ e => match e with
    | .BinOp a o b _ => if o = op then some [a, b] else none
    | _ => none
  sem := sem2 f
  nw := nw
@[simp] theorem binPr_sem (op : Operator) (f : D → D → Option D) (nw : Bool) (x y : D) : (binPr op f nw).sem [x, y] = f x y := rfl
theorem binPr_ok {C : Cn} {op : Operator} {f : D → D → Option D} {nw : Bool} (h : ∀ {N : List Str} {sc : Scope} {n : Nat} {W : WX} {X : Cx}, XOk C N sc n W X → OpR X (binaryOp op) (fun x y H Q => rV C (binPr op f nw) [x, y] H Q)) : (binPr op f nw).Ok C where
  pe := by
    intro N sc n W X hX e es ts h1 h2 h3
    cases e with
    | BinOp a o b p =>
      have h1 : (if o = op then some [a, b] else none) = some es := h1
      split at h1
      · rename_i hc
        cases h1
        subst hc
        match ts, h2 with
        | [ta, tb], ⟨ha, hb, _⟩ => exact pe_op (h hX) ha hb
      · cases h1
    | _ => cases h1
  nc := by
    intro sc e es h
    cases e <;> first | rfl | cases h
  bl := fun h => by cases h
  pt := fun h => by cases h
def addS : D → D → Option D
  | .int i, .int j => some (.int (i + j))
  | .str a, .str b => if a.length + b.length ≤ sizeLine then some (.str (a ++ b)) else none
  | .tup xs, .tup ys => if xs.length + ys.length ≤ sizeLine then some (.tup (xs ++ ys)) else none
  | .lst xs, .lst ys => if xs.length + ys.length ≤ sizeLine then some (.lst (xs ++ ys)) else none
  | _, _ => none
def pAdd : Pr := binPr .Add addS
theorem addS_ok {C : Cn} {X : Cx} (hK : X.K = C.K) : OpR X (binaryOp .Add) (fun x y H Q => rV C (binPr .Add addS) [x, y] H Q) := by
  refine OpR.weak (OpR.both op_add (OpR.both op_add_str (OpR.both op_catX op_cat))) fun x y H Q => ?_
  rintro ⟨Z, ds, d, hz, ha, hs, q⟩
  obtain ⟨a, b, rfl, hs⟩ := sem2_of hs
  obtain ⟨v, w, e, h1, h2⟩ := ha.two
  cases e
  have h1 : Vw C.K Z H a x := h1
  have h2 : Vw C.K Z H b y := h2
  cases a with
  | int i =>
    cases b with
    | int j =>
      cases hs
      exact .inl ⟨i, j, h1.int, h2.int, q _ _ _ (PRes.same hz rfl)⟩
    | _ => cases hs
  | str i =>
    cases b with
    | str j =>
      have hs : (if i.length + j.length ≤ sizeLine then some (D.str (i ++ j)) else none) = some d := hs
      split at hs
      · rename_i hl
        cases hs
        exact .inr (.inl ⟨i, j, h1.str, h2.str, hl, q _ _ _ (PRes.same hz rfl)⟩)
      · cases hs
    | _ => cases hs
  | tup xs =>
    cases b with
    | tup ys =>
      have hs : (if xs.length + ys.length ≤ sizeLine then some (D.tup (xs ++ ys)) else none) = some d := hs
      split at hs
      · rename_i hl
        cases hs
        obtain ⟨a1, vs, rfl, ⟨o1, g1, g3⟩, g2⟩ := h1.tupX
        obtain ⟨a2, ws, rfl, ⟨o2, k1, k3⟩, k2⟩ := h2.tupX
        rw [g2.len, k2.len] at hl
        refine .inr (.inr (.inl ⟨a1, a2, vs, ws, rfl, rfl, .inl (.inr ⟨o1, g1⟩), .inl (.inr ⟨o2, k1⟩), hl, fun e => ?_, fun _ e => ?_, fun _ _ p o hp hd => ?_⟩))
        · subst e
          have e : xs = [] := List.length_eq_zero_iff.mp g2.len
          subst e
          exact q _ _ _ (PRes.same hz ⟨a2, ws, rfl, ⟨o2, k1, k3⟩, k2⟩)
        · subst e
          have e : ys = [] := List.length_eq_zero_iff.mp k2.len
          subst e
          rw [List.append_nil] at q
          exact q _ _ _ (PRes.same hz ⟨a1, vs, rfl, ⟨o1, g1, g3⟩, g2⟩)
        · exact q _ _ _ (PRes.newT hz hp hd (g2.append k2))
      · cases hs
    | _ => cases hs
  | lst xs =>
    cases b with
    | lst ys =>
      have hs : (if xs.length + ys.length ≤ sizeLine then some (D.lst (xs ++ ys)) else none) = some d := hs
      split at hs
      · rename_i hl
        cases hs
        obtain ⟨a1, vs, rfl, g1, g2⟩ := h1.lst
        obtain ⟨a2, ws, rfl, k1, k2⟩ := h2.lst
        rw [g2.len, k2.len] at hl
        refine .inr (.inr (.inr ⟨a1, a2, vs, ws, rfl, rfl, g1, k1, hl, fun p hp => ?_⟩))
        obtain ⟨Z2, r⟩ := PRes.newL (nw := false) hz hp (g2.append k2)
        exact q _ _ _ r
      · cases hs
    | _ => cases hs
  | _ => cases hs
theorem pAdd_ok {C : Cn} : pAdd.Ok C := binPr_ok fun hX => addS_ok (by rw [hX.cn]; rfl)
def catS : D → D → Option D
  | .lst xs, .lst ys => if xs.length + ys.length ≤ sizeLine then some (.lst (xs ++ ys)) else none
  | _, _ => none
/-- list + list, a list of one's own -/
def pCat : Pr := binPr .Add catS true
theorem pCat_ok {C : Cn} : pCat.Ok C := binPr_ok fun {N sc n W X} hX => by
  refine OpR.weak op_cat fun x y H Q => ?_
  rintro ⟨Z, ds, d, hz, ha, hs, q⟩
  obtain ⟨a, b, rfl, hs⟩ := sem2_of hs
  obtain ⟨v, w, e, h1, h2⟩ := ha.two
  cases e
  have h1 : Vw C.K Z H a x := h1
  have h2 : Vw C.K Z H b y := h2
  cases a with
  | lst xs =>
    cases b with
    | lst ys =>
      have hs : (if xs.length + ys.length ≤ sizeLine then some (D.lst (xs ++ ys)) else none) = some d := hs
      split at hs
      · rename_i hl
        cases hs
        obtain ⟨a1, vs, rfl, g1, g2⟩ := h1.lst
        obtain ⟨a2, ws, rfl, k1, k2⟩ := h2.lst
        rw [g2.len, k2.len] at hl
        refine ⟨a1, a2, vs, ws, rfl, rfl, g1, k1, hl, fun p hp => ?_⟩
        obtain ⟨Z2, r⟩ := PRes.newL (nw := true) hz hp (g2.append k2)
        exact q _ _ _ r
      · cases hs
    | _ => cases hs
  | _ => cases hs
def subS : D → D → Option D
  | .int i, .int j => some (.int (i - j))
  | _, _ => none
def pSub : Pr := binPr .Sub subS
theorem pSub_ok {C : Cn} : pSub.Ok C := binPr_ok fun {N sc n W X} hX => by
  refine OpR.weak op_sub fun x y H Q => ?_
  rintro ⟨Z, ds, d, hz, ha, hs, q⟩
  obtain ⟨a, b, rfl, hs⟩ := sem2_of hs
  obtain ⟨v, w, e, h1, h2⟩ := ha.two
  cases e
  have h1 : Vw C.K Z H a x := h1
  have h2 : Vw C.K Z H b y := h2
  cases a with
  | int i =>
    cases b with
    | int j =>
      cases hs
      exact ⟨i, j, h1.int, h2.int, q _ _ _ (PRes.same hz rfl)⟩
    | _ => cases hs
  | _ => cases hs
/-- the product is told -/
def mulB (i j : Int) : Bool := decide (i.natAbs < 18446744073709551616) || decide (j.natAbs < 18446744073709551616) || decide (i.natAbs.log2 + j.natAbs.log2 < 1000000)
def mulS : D → D → Option D
  | .int i, .int j => if mulB i j = true then some (.int (i * j)) else none
  | .lst xs, .int k => if k.natAbs < 16777216 then (if xs.length * k.toNat ≤ sizeLine then some (.lst (List.replicate k.toNat xs).flatten) else none) else none
  | _, _ => none
def pMul : Pr := binPr .Mult mulS
theorem RpL.rep {K : PySem.W.Frag} {Z : Addr → Prop} {H : Hp} {ds : List D} {vs : List V} (h : RpL K Z H ds vs) : ∀ k : Nat, RpL K Z H (List.replicate k ds).flatten (List.replicate k vs).flatten
  | 0 => rfl
  | k + 1 => by
    rw [List.replicate_succ, List.replicate_succ, List.flatten_cons, List.flatten_cons]
    exact h.append (RpL.rep h k)
theorem pMul_ok {C : Cn} : pMul.Ok C := binPr_ok fun {N sc n W X} hX => by
  refine OpR.weak (OpR.both op_mul (OpR.both op_mulW op_rep)) fun x y H Q => ?_
  rintro ⟨Z, ds, d, hz, ha, hs, q⟩
  obtain ⟨a, b, rfl, hs⟩ := sem2_of hs
  obtain ⟨v, w, e, h1, h2⟩ := ha.two
  cases e
  have h1 : Vw C.K Z H a x := h1
  have h2 : Vw C.K Z H b y := h2
  cases a with
  | int i =>
    cases b with
    | int j =>
      have hs : (if mulB i j = true then some (D.int (i * j)) else none) = some d := hs
      split at hs
      · rename_i hm
        cases hs
        have fin := q (.int (i * j)) H Z (PRes.same hz rfl)
        unfold mulB at hm
        rw [Bool.or_eq_true, Bool.or_eq_true, decide_eq_true_eq, decide_eq_true_eq, decide_eq_true_eq] at hm
        rcases hm with (hm | hm) | hm
        · exact .inl ⟨i, j, h1.int, h2.int, .inl (by constructor <;> omega), fin⟩
        · exact .inl ⟨i, j, h1.int, h2.int, .inr (by constructor <;> omega), fin⟩
        · exact .inr (.inl ⟨i, j, h1.int, h2.int, hm, fin⟩)
      · cases hs
    | _ => cases hs
  | lst xs =>
    cases b with
    | int k =>
      have hs : (if k.natAbs < 16777216 then (if xs.length * k.toNat ≤ sizeLine then some (D.lst (List.replicate k.toNat xs).flatten) else none) else none) = some d := hs
      split at hs
      · rename_i hk
        split at hs
        · rename_i hl
          cases hs
          obtain ⟨a1, vs, rfl, g1, g2⟩ := h1.lst
          rw [g2.len] at hl
          refine .inr (.inr ⟨a1, k, vs, rfl, h2.int, g1, by omega, by omega, hl, fun p hp => ?_⟩)
          obtain ⟨Z2, r⟩ := PRes.newL (nw := false) hz hp (g2.rep k.toNat)
          exact q _ _ _ r
        · cases hs
      · cases hs
    | _ => cases hs
  | _ => cases hs
def divS : D → D → Option D
  | .int i, .int j => if 0 < j ∧ j < 1073741824 then some (.int (i / j)) else none
  | _, _ => none
def pDiv : Pr := binPr .FloorDiv divS
theorem pDiv_ok {C : Cn} : pDiv.Ok C := binPr_ok fun {N sc n W X} hX => by
  refine OpR.weak op_fdiv fun x y H Q => ?_
  rintro ⟨Z, ds, d, hz, ha, hs, q⟩
  obtain ⟨a, b, rfl, hs⟩ := sem2_of hs
  obtain ⟨v, w, e, h1, h2⟩ := ha.two
  cases e
  have h1 : Vw C.K Z H a x := h1
  have h2 : Vw C.K Z H b y := h2
  cases a with
  | int i =>
    cases b with
    | int j =>
      have hs : (if 0 < j ∧ j < 1073741824 then some (D.int (i / j)) else none) = some d := hs
      split at hs
      · rename_i hm
        cases hs
        exact ⟨i, j, h1.int, h2.int, hm, q _ _ _ (PRes.same hz rfl)⟩
      · cases hs
    | _ => cases hs
  | _ => cases hs
def modS : D → D → Option D
  | .int i, .int j => if 0 < j then some (.int (i % j)) else none
  | _, _ => none
def pMod : Pr := binPr .Mod modS
theorem pMod_ok {C : Cn} : pMod.Ok C := binPr_ok fun {N sc n W X} hX => by
  refine OpR.weak op_mod fun x y H Q => ?_
  rintro ⟨Z, ds, d, hz, ha, hs, q⟩
  obtain ⟨a, b, rfl, hs⟩ := sem2_of hs
  obtain ⟨v, w, e, h1, h2⟩ := ha.two
  cases e
  have h1 : Vw C.K Z H a x := h1
  have h2 : Vw C.K Z H b y := h2
  cases a with
  | int i =>
    cases b with
    | int j =>
      have hs : (if 0 < j then some (D.int (i % j)) else none) = some d := hs
      split at hs
      · rename_i hm
        cases hs
        exact ⟨i, j, h1.int, h2.int, hm, q _ _ _ (PRes.same hz rfl)⟩
      · cases hs
    | _ => cases hs
  | _ => cases hs
/-- -x -/
def negS : D → Option D
  | .int i => some (.int (-i))
  | _ => none
def pNeg : Pr where
  rcg := fun _ e => match e with
    | .UnaryOp .USub a _ => some [a]
    | _ => none
  sem := sem1 negS
@[simp] theorem pNeg_sem (x : D) : pNeg.sem [x] = negS x := rfl
theorem pNeg_ok {C : Cn} : pNeg.Ok C where
  pe := by
    intro N sc n W X hX e es ts h1 h2 h3
    cases e with
    | UnaryOp o a p =>
      cases o with
      | USub =>
        cases h1
        match ts, h2 with
        | [ta], ⟨ha, _⟩ =>
          refine pe_un (UnR.weak un_neg fun x H Q => ?_) ha
          rintro ⟨Z, ds, d, hz, ha, hs, q⟩
          obtain ⟨a, rfl, hs⟩ := sem1_of hs
          obtain ⟨v, e, h1⟩ := ha.one
          cases e
          have h1 : Vw C.K Z H a x := h1
          cases a with
          | int i =>
            cases hs
            exact ⟨i, h1.int, q _ _ _ (PRes.same hz rfl)⟩
          | _ => cases hs
      | _ => cases h1
    | _ => cases h1
  nc := by
    intro sc e es h
    cases e <;> first | rfl | cases h
  bl := fun h => by cases h
  pt := fun h => by cases h
end G
end
section
set_option maxRecDepth 10000
/-! Comparisons. -/
namespace G
open PySem L2
/-! ### data at any depth -/
mutual
def toP : D → Option PyData
  | .non => some .none
  | .bl b => some (.bool b)
  | .int i => some (.int i)
  | .str s => some (.str s)
  | .tup ds => match toPs ds with
    | some ps => some (.tuple ps)
    | none => none
  | .wtp ds => match toPs ds with
    | some ps => some (.tuple ps)
    | none => none
  | .lst ds => match toPs ds with
    | some ps => some (.list ps)
    | none => none
  | .dk _ => none
  | .dt _ => none
  | .scr _ => none
def toPs : List D → Option (List PyData)
  | [] => some []
  | d :: ds => match toP d, toPs ds with
    | some p, some ps => some (p :: ps)
    | _, _ => none
end
section
variable {K : PySem.W.Frag} {Z : Addr → Prop} {H : Hp}
mutual
theorem toP_dp : ∀ (d : D) (p : PyData) (v : V), toP d = some p → Rp K Z H d v → Dp K H v p
  | .non, _, _, h, r => by cases h; rw [show _ = V.non from r]; exact .non
  | .bl b, _, _, h, r => by cases h; rw [show _ = V.bl b from r]; exact .bl b
  | .int i, _, _, h, r => by cases h; rw [show _ = V.int i from r]; exact .int i
  | .str s, _, _, h, r => by cases h; rw [show _ = V.str s from r]; exact .str s
  | .tup ds, p, v, h, ⟨a, xs, e, ⟨o, h1, _⟩, h2⟩ => by
    have h : (match toPs ds with
      | some ps => some (PyData.tuple ps)
      | none => none) = some p := h
    cases e1 : toPs ds with
    | none => rw [e1] at h; cases h
    | some ps =>
      rw [e1] at h
      cases h
      rw [e]
      exact .tup (.inl (.inr ⟨o, h1⟩)) (toPs_dp ds ps xs e1 h2)
  | .wtp ds, p, v, h, ⟨a, xs, e, h1, h2⟩ => by
    have h : (match toPs ds with
      | some ps => some (PyData.tuple ps)
      | none => none) = some p := h
    cases e1 : toPs ds with
    | none => rw [e1] at h; cases h
    | some ps =>
      rw [e1] at h
      cases h
      rw [e]
      exact .tup (.of h1) (toPs_dp ds ps xs e1 h2)
  | .lst ds, p, v, h, ⟨a, xs, e, _, h1, h2⟩ => by
    have h : (match toPs ds with
      | some ps => some (PyData.list ps)
      | none => none) = some p := h
    cases e1 : toPs ds with
    | none => rw [e1] at h; cases h
    | some ps =>
      rw [e1] at h
      cases h
      rw [e]
      exact .lst (.of h1) (toPs_dp ds ps xs e1 h2)
  | .dk _, _, _, h, _ => by cases h
  | .dt _, _, _, h, _ => by cases h
  | .scr _, _, _, h, _ => by cases h
theorem toPs_dp : ∀ (ds : List D) (ps : List PyData) (vs : List V), toPs ds = some ps → RpL K Z H ds vs → DpAll K H vs ps
  | [], _, _, h, r => by cases h; rw [show _ = [] from r]; exact .nil
  | d :: ds, ps, vs, h, ⟨v, vr, e, h1, h2⟩ => by
    have h : (match toP d, toPs ds with
      | some p, some ps => some (p :: ps)
      | _, _ => none) = some ps := h
    cases e1 : toP d with
    | none => rw [e1] at h; cases h
    | some p =>
      cases e2 : toPs ds with
      | none => rw [e1, e2] at h; cases h
      | some pr =>
        rw [e1, e2] at h
        cases h
        rw [e]
        exact .cons (toP_dp d p v e1 h1) (toPs_dp ds pr vr e2 h2)
end
theorem toP_vw {d : D} {p : PyData} {v : V} (h : toP d = some p) (r : Vw K Z H d v) : Dp K H v p := by
  rcases r with r | ⟨a, e, t⟩
  · exact toP_dp d p v h r
  · cases d with
    | lst ds =>
      obtain ⟨xs, h1, h2⟩ := t
      have h : (match toPs ds with
        | some ps => some (PyData.list ps)
        | none => none) = some p := h
      cases e1 : toPs ds with
      | none => rw [e1] at h; cases h
      | some ps =>
        rw [e1] at h
        cases h
        rw [e]
        exact .lst (.of h1) (toPs_dp ds ps xs e1 h2)
    | dk _ => cases h
    | dt _ => cases h
    | _ => exact t.elim
end
/-! ### the shape of a comparison -/
def cmpPr (op : CmpOp) (f : D → D → Option D) : Pr where
  rcg := fun _ e => match e with
    | .Compare a [o] [b] _ => if (decide (o = op) && !behindInMarks op b) = true then some [a, b] else none
    | _ => none
  sem := sem2 f
  cmp := true
@[simp] theorem cmpPr_sem (op : CmpOp) (f : D → D → Option D) (x y : D) : (cmpPr op f).sem [x, y] = f x y := rfl
theorem cmp_shape {op : CmpOp} {f : D → D → Option D} {sc : Scope} {e : Expr} {es : List Expr} (h : (cmpPr op f).rcg sc e = some es) : ∃ a b p, e = .Compare a [op] [b] p ∧ es = [a, b] ∧ behindInMarks op b = false := by
  cases e with
  | Compare a os bs p =>
    cases os with
    | nil => cases h
    | cons o os =>
      cases os with
      | cons _ _ => cases h
      | nil =>
        cases bs with
        | nil => cases h
        | cons b bs =>
          cases bs with
          | cons _ _ => cases h
          | nil =>
            have h : (if (decide (o = op) && !behindInMarks op b) = true then some [a, b] else none) = some es := h
            split at h
            · rename_i hc
              cases h
              rw [Bool.and_eq_true, decide_eq_true_eq, Bool.not_eq_true'] at hc
              obtain ⟨rfl, hc⟩ := hc
              exact ⟨a, b, p, rfl, rfl, hc⟩
            · cases h
  | _ => cases h
theorem cmpPr_ok {C : Cn} {op : CmpOp} {f : D → D → Option D} (hb : ∀ x y d, f x y = some d → ∃ b, d = .bl b)
    (h : ∀ {N : List Str} {sc : Scope} {n : Nat} {W : WX} {X : Cx}, XOk C N sc n W X → OpR X (compareOp op) (fun x y H Q => rV C (cmpPr op f) [x, y] H Q)) : (cmpPr op f).Ok C where
  pe := by
    intro N sc n W X hX e es ts h1 h2 h3
    obtain ⟨a, b, p, rfl, rfl, hm⟩ := cmp_shape h1
    match ts, h2 with
    | [ta, tb], ⟨ha, hb, _⟩ => exact pe_cmpR (h hX) ha hb hm
  nc := by
    intro sc e es h1
    obtain ⟨a, b, p, rfl, rfl, hm⟩ := cmp_shape h1
    rfl
  bl := fun _ => ⟨rfl, fun ds d h => by
    obtain ⟨x, y, rfl, h⟩ := sem2_of h
    exact hb x y d h⟩
  pt := by
    intro _ N sc n W X hX e es ts h1 h2 h3
    obtain ⟨a, b, p, rfl, rfl, hm⟩ := cmp_shape h1
    match ts, h2 with
    | [ta, tb], ⟨ha, hb, _⟩ => exact pt_cmpR (h hX) ha hb hm
/-- the answer of a comparison -/
theorem rV_bl {C : Cn} {op : CmpOp} {f : D → D → Option D} {x y : V} {H : Hp} {Q : VK} (h : rV C (cmpPr op f) [x, y] H Q) : ∃ Z a b d, (∀ a, Z a → H a ≠ none) ∧ Vw C.K Z H a x ∧ Vw C.K Z H b y ∧ f a b = some d ∧ ∀ c, d = .bl c → Q (.bl c) H := by
  obtain ⟨Z, ds, d, hz, ha, hs, q⟩ := h
  obtain ⟨a, b, rfl, hs⟩ := sem2_of hs
  obtain ⟨v, w, e, h1, h2⟩ := ha.two
  cases e
  exact ⟨Z, a, b, d, hz, h1, h2, hs, fun c e => q _ _ _ (PRes.same hz (by rw [e]; exact rfl))⟩
def dataEq (x y : D) : Option Bool := match toP x, toP y with
  | some p, some q => if (SeqAt.shaped p && SeqAt.shaped q) = true then some (PyData.eqv p q) else none
  | _, _ => none
def eqS (x y : D) : Option D := (dataEq x y).map .bl
def neS (x y : D) : Option D := (dataEq x y).map fun b => .bl (!b)
theorem dataEq_of {x y : D} {b : Bool} (h : dataEq x y = some b) : ∃ p q, toP x = some p ∧ toP y = some q ∧ SeqAt.shaped p = true ∧ SeqAt.shaped q = true ∧ b = PyData.eqv p q := by
  unfold dataEq at h
  split at h
  · rename_i p q e1 e2
    split at h
    · rename_i hs
      rw [Bool.and_eq_true] at hs
      cases h
      exact ⟨p, q, e1, e2, hs.1, hs.2, rfl⟩
    · cases h
  · cases h
def pEq : Pr := cmpPr .Eq eqS
def pNe : Pr := cmpPr .NotEq neS
theorem pEq_ok {C : Cn} : pEq.Ok C := cmpPr_ok (fun x y d h => by
    unfold eqS at h
    cases e : dataEq x y with
    | none => rw [e] at h; cases h
    | some b => rw [e] at h; cases h; exact ⟨b, rfl⟩) fun {N sc n W X} hX => by
  refine OpR.weak (op_eqD (by have := hX.room.un; omega)) fun x y H Q h => ?_
  obtain ⟨Z, a, b, d, hz, h1, h2, hs, q⟩ := rV_bl h
  unfold eqS at hs
  cases e : dataEq a b with
  | none => rw [e] at hs; cases hs
  | some c =>
    rw [e] at hs
    cases hs
    obtain ⟨p, q', e1, e2, s1, s2, rfl⟩ := dataEq_of e
    have hK : X.K = C.K := by rw [hX.cn]; rfl
    exact ⟨p, q', by rw [hK]; exact toP_vw e1 h1, by rw [hK]; exact toP_vw e2 h2, s1, s2, q _ rfl⟩
theorem pNe_ok {C : Cn} : pNe.Ok C := cmpPr_ok (fun x y d h => by
    unfold neS at h
    cases e : dataEq x y with
    | none => rw [e] at h; cases h
    | some b => rw [e] at h; cases h; exact ⟨!b, rfl⟩) fun {N sc n W X} hX => by
  refine OpR.weak (op_neD (by have := hX.room.un; omega)) fun x y H Q h => ?_
  obtain ⟨Z, a, b, d, hz, h1, h2, hs, q⟩ := rV_bl h
  unfold neS at hs
  cases e : dataEq a b with
  | none => rw [e] at hs; cases hs
  | some c =>
    rw [e] at hs
    cases hs
    obtain ⟨p, q', e1, e2, s1, s2, rfl⟩ := dataEq_of e
    have hK : X.K = C.K := by rw [hX.cn]; rfl
    exact ⟨p, q', by rw [hK]; exact toP_vw e1 h1, by rw [hK]; exact toP_vw e2 h2, s1, s2, q _ rfl⟩
/-! ### order -/
def ltS : D → D → Option D
  | .int i, .int j => some (.bl (decide (i < j)))
  | .str a, .str b => some (.bl (decide (a.cps.toList < b.cps.toList)))
  | _, _ => none
def leS : D → D → Option D
  | .int i, .int j => some (.bl (decide (i ≤ j)))
  | .str a, .str b => some (.bl (!decide (b.cps.toList < a.cps.toList)))
  | _, _ => none
def gtS : D → D → Option D
  | .int i, .int j => some (.bl (decide (j < i)))
  | _, _ => none
def geS : D → D → Option D
  | .int i, .int j => some (.bl (decide (j ≤ i)))
  | _, _ => none
theorem ltS_bl {x y d : D} (h : ltS x y = some d) : ∃ b, d = .bl b := by
  cases x <;> cases y <;> first | (cases h; exact ⟨_, rfl⟩) | cases h
theorem leS_bl {x y d : D} (h : leS x y = some d) : ∃ b, d = .bl b := by
  cases x <;> cases y <;> first | (cases h; exact ⟨_, rfl⟩) | cases h
theorem gtS_bl {x y d : D} (h : gtS x y = some d) : ∃ b, d = .bl b := by
  cases x <;> cases y <;> first | (cases h; exact ⟨_, rfl⟩) | cases h
theorem geS_bl {x y d : D} (h : geS x y = some d) : ∃ b, d = .bl b := by
  cases x <;> cases y <;> first | (cases h; exact ⟨_, rfl⟩) | cases h
def pLt : Pr := cmpPr .Lt ltS
def pLe : Pr := cmpPr .LtE leS
def pGt : Pr := cmpPr .Gt gtS
def pGe : Pr := cmpPr .GtE geS
theorem ltS_ok {C : Cn} {X : Cx} : OpR X (compareOp .Lt) (fun x y H Q => rV C (cmpPr .Lt ltS) [x, y] H Q) := by
  refine OpR.weak (OpR.both op_lt op_lt_str) fun x y H Q h => ?_
  obtain ⟨Z, a, b, d, hz, h1, h2, hs, q⟩ := rV_bl h
  cases a with
  | int i =>
    cases b with
    | int j => cases hs; exact .inl ⟨i, j, h1.int, h2.int, q _ rfl⟩
    | _ => cases hs
  | str i =>
    cases b with
    | str j => cases hs; exact .inr ⟨i, j, h1.str, h2.str, q _ rfl⟩
    | _ => cases hs
  | _ => cases hs
theorem leS_ok {C : Cn} {X : Cx} : OpR X (compareOp .LtE) (fun x y H Q => rV C (cmpPr .LtE leS) [x, y] H Q) := by
  refine OpR.weak (OpR.both op_le op_le_str) fun x y H Q h => ?_
  obtain ⟨Z, a, b, d, hz, h1, h2, hs, q⟩ := rV_bl h
  cases a with
  | int i =>
    cases b with
    | int j => cases hs; exact .inl ⟨i, j, h1.int, h2.int, q _ rfl⟩
    | _ => cases hs
  | str i =>
    cases b with
    | str j => cases hs; exact .inr ⟨i, j, h1.str, h2.str, q _ rfl⟩
    | _ => cases hs
  | _ => cases hs
theorem pLt_ok {C : Cn} : pLt.Ok C := cmpPr_ok (fun _ _ _ h => ltS_bl h) fun _ => ltS_ok
theorem pLe_ok {C : Cn} : pLe.Ok C := cmpPr_ok (fun _ _ _ h => leS_bl h) fun _ => leS_ok
theorem pGt_ok {C : Cn} : pGt.Ok C := cmpPr_ok (fun _ _ _ h => gtS_bl h) fun {N sc n W X} hX => by
  refine OpR.weak op_gt fun x y H Q h => ?_
  obtain ⟨Z, a, b, d, hz, h1, h2, hs, q⟩ := rV_bl h
  cases a with
  | int i =>
    cases b with
    | int j => cases hs; exact ⟨i, j, h1.int, h2.int, q _ rfl⟩
    | _ => cases hs
  | _ => cases hs
theorem pGe_ok {C : Cn} : pGe.Ok C := cmpPr_ok (fun _ _ _ h => geS_bl h) fun {N sc n W X} hX => by
  refine OpR.weak op_ge fun x y H Q h => ?_
  obtain ⟨Z, a, b, d, hz, h1, h2, hs, q⟩ := rV_bl h
  cases a with
  | int i =>
    cases b with
    | int j => cases hs; exact ⟨i, j, h1.int, h2.int, q _ rfl⟩
    | _ => cases hs
  | _ => cases hs
/-! ### is None -/
def isNo : D → Bool
  | .non => true
  | _ => false
def isS : D → D → Option D
  | x, .non => some (.bl (isNo x))
  | _, _ => none
def isntS : D → D → Option D
  | x, .non => some (.bl (!isNo x))
  | _, _ => none
theorem isNo_v {K : PySem.W.Frag} {Z : Addr → Prop} {H : Hp} {d : D} {v : V} (h : Vw K Z H d v) : decide (v = .non) = isNo d := by
  cases d with
  | non => rw [h.non]; rfl
  | bl b => rw [h.bl]; rfl
  | int b => rw [h.int]; rfl
  | str b => rw [h.str]; rfl
  | tup ds => obtain ⟨a, _, rfl, _⟩ := h.tup; rfl
  | wtp ds => obtain ⟨a, _, rfl, _⟩ := h.wtp; rfl
  | lst ds => obtain ⟨a, _, rfl, _⟩ := h.lst; rfl
  | dk ds => obtain ⟨a, _, rfl, _⟩ := h.dk; rfl
  | dt ds => obtain ⟨a, _, rfl, _⟩ := h.dt; rfl
  | scr ds => obtain ⟨a, rfl, _⟩ := h.scr; rfl
def pIs : Pr := cmpPr .Is isS
def pIsnt : Pr := cmpPr .IsNot isntS
theorem pIs_ok {C : Cn} : pIs.Ok C := cmpPr_ok (fun x y d h => by
    cases y <;> first | (cases h; exact ⟨_, rfl⟩) | (cases x <;> cases h)) fun {N sc n W X} hX => by
  refine OpR.weak op_isN fun x y H Q h => ?_
  obtain ⟨Z, a, b, d, hz, h1, h2, hs, q⟩ := rV_bl h
  cases b with
  | non =>
    have hs : some (D.bl (isNo a)) = some d := by cases a <;> exact hs
    cases hs
    exact ⟨h2.non, by rw [isNo_v h1]; exact q _ rfl⟩
  | _ => cases a <;> cases hs
theorem pIsnt_ok {C : Cn} : pIsnt.Ok C := cmpPr_ok (fun x y d h => by
    cases y <;> first | (cases h; exact ⟨_, rfl⟩) | (cases x <;> cases h)) fun {N sc n W X} hX => by
  refine OpR.weak op_notN fun x y H Q h => ?_
  obtain ⟨Z, a, b, d, hz, h1, h2, hs, q⟩ := rV_bl h
  cases b with
  | non =>
    have hs : some (D.bl (!isNo a)) = some d := by cases a <;> exact hs
    cases hs
    exact ⟨h2.non, by rw [isNo_v h1]; exact q _ rfl⟩
  | _ => cases a <;> cases hs
end G
end
section
set_option maxRecDepth 10000
/-! In, subscripts, displays. -/
namespace G
open PySem L2
/-! ### dicts: what stands under a key -/
section
variable {K : PySem.W.Frag} {Z : Addr → Prop} {H : Hp}
theorem look_cons {κ : Type} [DecidableEq κ] {k k1 : κ} {d : D} {r : List (κ × D)} : look k ((k1, d) :: r) = if k1 = k then some d else look k r := by
  unfold look
  rw [List.find?_cons]
  by_cases h : k1 = k
  · rw [if_pos h]
    simp [h]
  · rw [if_neg h]
    simp [h]
theorem RpK.look : ∀ {ds : List (Ky × D)} {ks : List (Ky × V)} {k : Ky}, RpK K Z H ds ks → (look k ds = none → valV ks k = none) ∧ ∀ d, look k ds = some d → ∃ v, valV ks k = some v ∧ Rp K Z H d v
  | [], _, k, h => by
    rw [show _ = [] from h]
    exact ⟨fun _ => rfl, fun d e => by cases e⟩
  | (k1, d1) :: ds, _, k, ⟨v, r, e, h1, h2⟩ => by
    subst e
    obtain ⟨i1, i2⟩ := RpK.look (k := k) h2
    have e : valV ((k1, v) :: r) k = if k1 = k then some v else valV r k := by
      unfold valV
      rw [List.find?_cons]
      by_cases h : k1 = k
      · simp [h]
      · simp [h]
    rw [look_cons, e]
    by_cases h : k1 = k
    · rw [if_pos h, if_pos h]
      exact ⟨fun z => by (cases z), fun d z => by (cases z; exact ⟨v, rfl, h1⟩)⟩
    · rw [if_neg h, if_neg h]
      exact ⟨i1, i2⟩
theorem RpT.look : ∀ {ds : List (List Ky × D)} {ks : List (List Ky × V)} {k : List Ky}, RpT K Z H ds ks → (G.look k ds = none → valV ks k = none) ∧ ∀ d, G.look k ds = some d → ∃ v, valV ks k = some v ∧ Rp K Z H d v
  | [], _, k, h => by
    rw [show _ = [] from h]
    exact ⟨fun _ => rfl, fun d e => by cases e⟩
  | (k1, d1) :: ds, _, k, ⟨v, r, e, h1, h2⟩ => by
    subst e
    obtain ⟨i1, i2⟩ := RpT.look (k := k) h2
    have e : valV ((k1, v) :: r) k = if k1 = k then some v else valV r k := by
      unfold valV
      rw [List.find?_cons]
      by_cases h : k1 = k
      · simp [h]
      · simp [h]
    rw [look_cons, e]
    by_cases h : k1 = k
    · rw [if_pos h, if_pos h]
      exact ⟨fun z => by (cases z), fun d z => by (cases z; exact ⟨v, rfl, h1⟩)⟩
    · rw [if_neg h, if_neg h]
      exact ⟨i1, i2⟩
/-- what stands under the key y of the dict d (none: no such question) -/
def dictAt : D → D → Option (Option D)
  | .dk kvs, y => match keyOf y with
    | some k => some (look k kvs)
    | none => none
  | .dt kvs, y => match tupKey y with
    | some k => some (look k kvs)
    | none => none
  | _, _ => none
theorem keyOf_vw {d : D} {k : Ky} {v : V} (h : keyOf d = some k) (r : Vw K Z H d v) : v = kV k := by
  rcases r with r | ⟨a, e, t⟩
  · exact keyOf_ok h r
  · cases d <;> first | exact t.elim | cases h
theorem tupKey_vw {d : D} {k : List Ky} {v : V} (h : tupKey d = some k) (r : Vw K Z H d v) : ∃ b, v = .ref b ∧ H b = some (.tup (k.map kV)) := by
  rcases r with r | ⟨a, e, t⟩
  · exact tupKey_ok h r
  · cases d <;> first | exact t.elim | cases h
theorem dictAt_get {o y : D} {x v : V} {r : Option D} (h : dictAt o y = some r) (h1 : Vw K Z H o x) (h2 : Vw K Z H y v) : ∃ a, x = .ref a ∧ IsD H a ∧ ∃ w, DGet H a v w ∧ ((r = none ∧ w = none) ∨ ∃ d u, r = some d ∧ w = some u ∧ Rp K Z H d u) := by
  cases o with
  | dk kvs =>
    obtain ⟨a, ks, rfl, g1, g2⟩ := h1.dk
    have h : (match keyOf y with
      | some k => some (look k kvs)
      | none => none) = some r := h
    cases e : keyOf y with
    | none => rw [e] at h; cases h
    | some k =>
      rw [e] at h
      cases h
      have hv := keyOf_vw e h2
      obtain ⟨l1, l2⟩ := g2.look (k := k)
      refine ⟨a, rfl, .inl ⟨ks, g1⟩, valV ks k, .inl ⟨ks, k, g1, hv, rfl⟩, ?_⟩
      cases e2 : look k kvs with
      | none => exact .inl ⟨rfl, l1 e2⟩
      | some d =>
        obtain ⟨u, u1, u2⟩ := l2 d e2
        exact .inr ⟨d, u, rfl, u1, u2⟩
  | dt kvs =>
    obtain ⟨a, ks, rfl, g1, g2⟩ := h1.dt
    have h : (match tupKey y with
      | some k => some (look k kvs)
      | none => none) = some r := h
    cases e : tupKey y with
    | none => rw [e] at h; cases h
    | some k =>
      rw [e] at h
      cases h
      obtain ⟨b, hv, hb⟩ := tupKey_vw e h2
      obtain ⟨l1, l2⟩ := g2.look (k := k)
      refine ⟨a, rfl, .inr ⟨ks, g1⟩, valV ks k, .inr ⟨ks, k, b, g1, hv, hb, rfl⟩, ?_⟩
      cases e2 : look k kvs with
      | none => exact .inl ⟨rfl, l1 e2⟩
      | some d =>
        obtain ⟨u, u1, u2⟩ := l2 d e2
        exact .inr ⟨d, u, rfl, u1, u2⟩
  | _ => cases h
end
/-! ### in -/
section
variable {X : Cx}
def rDIn (neg : Bool) : R2 := fun y x H Q => ∃ a o, x = .ref a ∧ DGet H a y o ∧ Q (.bl (if neg = true then !o.isSome else o.isSome)) H
theorem op_din (hu : X.A.units + 1 < cLine) : OpR X (compareOp .In) (rDIn false) := by
  intro pins s σ H x y v u Q I rx ry h
  obtain ⟨a, o, rfl, g, q⟩ := h
  obtain rfl : u = Value.ref a := ry
  exact d_in hu I g rx fun s3 I3 => ⟨.bl o.isSome, H, I3, rfl, q⟩
theorem op_dnotin (hu : X.A.units + 1 < cLine) : OpR X (compareOp .NotIn) (rDIn true) := by
  intro pins s σ H x y v u Q I rx ry h
  obtain ⟨a, o, rfl, g, q⟩ := h
  obtain rfl : u = Value.ref a := ry
  exact d_notIn hu I g rx fun s3 I3 => ⟨.bl (!o.isSome), H, I3, rfl, q⟩
def rInTD (K : PySem.W.Frag) (neg : Bool) : R2 := fun x y H Q => ∃ d ds, Dp K H x d ∧ Dp K H y (.tuple ds) ∧ SeqAt.shaped d = true ∧ SeqAt.shaped (.tuple ds) = true ∧ Q (.bl (if neg = true then !ds.any fun z => PyData.eqv z d else ds.any fun z => PyData.eqv z d)) H
theorem room_in_tup {A : Around} {d : PyData} {ds : List PyData} (h : SeqAt.shaped d = true) (hu : A.units + 65 < cLine) : A.units + 1 + min (PyData.depthAll ds) d.depth < cLine := by
  have h1 := SeqAt.depth_of_shaped h
  have h2 : min (PyData.depthAll ds) d.depth ≤ d.depth := Nat.min_le_right _ _
  omega
theorem op_inTD (hu : X.A.units + 65 < cLine) : OpR X (compareOp .In) (rInTD X.K false) := by
  intro pins s σ H x y v u Q I rx ry h
  obtain ⟨d, ds, hd, he, sd, se, q⟩ := h
  obtain ⟨as, r1⟩ := Dp.reads I d x v hd rx
  obtain ⟨bs, r2⟩ := Dp.reads I (.tuple ds) y u he ry
  exact SeqAt.in_tuple_reads r2 r1 (SeqAt.canLay_of_shaped se) (SeqAt.canLay_of_shaped sd) (room_in_tup sd hu) ⟨.bl _, H, I, rfl, q⟩
theorem op_notInTD (hu : X.A.units + 65 < cLine) : OpR X (compareOp .NotIn) (rInTD X.K true) := by
  intro pins s σ H x y v u Q I rx ry h
  obtain ⟨d, ds, hd, he, sd, se, q⟩ := h
  obtain ⟨as, r1⟩ := Dp.reads I d x v hd rx
  obtain ⟨bs, r2⟩ := Dp.reads I (.tuple ds) y u he ry
  exact SeqAt.notIn_tuple_reads r2 r1 (SeqAt.canLay_of_shaped se) (SeqAt.canLay_of_shaped sd) (room_in_tup sd hu) ⟨.bl _, H, I, rfl, q⟩
end
def dataIn (x : D) (ys : List D) (p0 : List PyData → PyData) : Option Bool := match toP x, toPs ys with
  | some p, some ps => if (SeqAt.shaped p && SeqAt.shaped (p0 ps)) = true then some (ps.any fun z => PyData.eqv z p) else none
  | _, _ => none
theorem dataIn_of {x : D} {ys : List D} {p0 : List PyData → PyData} {b : Bool} (h : dataIn x ys p0 = some b) : ∃ p ps, toP x = some p ∧ toPs ys = some ps ∧ SeqAt.shaped p = true ∧ SeqAt.shaped (p0 ps) = true ∧ b = ps.any fun z => PyData.eqv z p := by
  unfold dataIn at h
  split at h
  · rename_i p ps e1 e2
    split at h
    · rename_i hs
      rw [Bool.and_eq_true] at hs
      cases h
      exact ⟨p, ps, e1, e2, hs.1, hs.2, rfl⟩
    · cases h
  · cases h
def inB : D → D → Option Bool
  | x, .lst ys => dataIn x ys .list
  | x, .tup ys => dataIn x ys .tuple
  | x, .wtp ys => dataIn x ys .tuple
  | .str x, .str y => match x with
    | ⟨#[c]⟩ => some (decide (c ∈ y.cps.toList))
    | _ => none
  | x, .dk kvs => (dictAt (.dk kvs) x).map Option.isSome
  | x, .dt kvs => (dictAt (.dt kvs) x).map Option.isSome
  | _, _ => none
def inS (x y : D) : Option D := (inB x y).map .bl
def ninS (x y : D) : Option D := (inB x y).map fun b => .bl (!b)
def rInAll (K : PySem.W.Frag) (neg : Bool) : R2 := fun x y H Q => (∃ b, (∃ d ds, Dp K H x d ∧ Dp K H y (.list ds) ∧ SeqAt.shaped d = true ∧ SeqAt.shaped (.list ds) = true ∧ b = ds.any fun z => PyData.eqv z d) ∧ Q (.bl (if neg = true then !b else b)) H) ∨
  rInTD K neg x y H Q ∨ (∃ (c : Nat) (z : Str), x = .str ⟨#[c]⟩ ∧ y = .str z ∧ Q (.bl (if neg = true then !decide (c ∈ z.cps.toList) else decide (c ∈ z.cps.toList))) H) ∨ rDIn neg x y H Q
theorem op_inAll {X : Cx} (hu : X.A.units + 65 < cLine) : OpR X (compareOp .In) (rInAll X.K false) := by
  refine OpR.weak (OpR.both (op_inD hu) (OpR.both (op_inTD hu) (OpR.both op_in_sign (op_din (by omega))))) fun x y H Q h => ?_
  rcases h with ⟨b, ⟨d, ds, h1, h2, h3, h4, rfl⟩, q⟩ | h | h | h
  · exact .inl ⟨d, ds, h1, h2, h3, h4, q⟩
  · exact .inr (.inl h)
  · exact .inr (.inr (.inl h))
  · exact .inr (.inr (.inr h))
theorem op_notInAll {X : Cx} (hu : X.A.units + 65 < cLine) : OpR X (compareOp .NotIn) (rInAll X.K true) := by
  refine OpR.weak (OpR.both (op_notInD hu) (OpR.both (op_notInTD hu) (OpR.both op_notIn_sign (op_dnotin (by omega))))) fun x y H Q h => ?_
  rcases h with ⟨b, ⟨d, ds, h1, h2, h3, h4, rfl⟩, q⟩ | h | h | h
  · exact .inl ⟨d, ds, h1, h2, h3, h4, q⟩
  · exact .inr (.inl h)
  · exact .inr (.inr (.inl h))
  · exact .inr (.inr (.inr h))
theorem inB_read {K : PySem.W.Frag} {Z : Addr → Prop} {H : Hp} {neg : Bool} {a b : D} {x y : V} {c : Bool} {Q : VK} (h : inB a b = some c) (h1 : Vw K Z H a x) (h2 : Vw K Z H b y) (q : Q (.bl (if neg = true then !c else c)) H) : rInAll K neg x y H Q := by
  have dict : ∀ (z : Option D), dictAt b a = some z → c = z.isSome → rDIn neg x y H Q := fun z hz hc => by
    obtain ⟨ad, rfl, _, w, g, r⟩ := dictAt_get hz h2 h1
    refine ⟨ad, w, rfl, g, ?_⟩
    have : w.isSome = z.isSome := by
      rcases r with ⟨rfl, rfl⟩ | ⟨d, u, rfl, rfl, _⟩ <;> rfl
    rw [this, ← hc]
    exact q
  cases b with
  | lst ys =>
    have h : dataIn a ys .list = some c := by cases a <;> exact h
    obtain ⟨p, ps, e1, e2, s1, s2, rfl⟩ := dataIn_of h
    exact .inl ⟨_, ⟨p, ps, toP_vw e1 h1, toP_vw (d := .lst ys) (by show (match toPs ys with | some ps => some (PyData.list ps) | none => none) = _; rw [e2]) h2, s1, s2, rfl⟩, q⟩
  | tup ys =>
    have h : dataIn a ys .tuple = some c := by cases a <;> exact h
    obtain ⟨p, ps, e1, e2, s1, s2, rfl⟩ := dataIn_of h
    exact .inr (.inl ⟨p, ps, toP_vw e1 h1, toP_vw (d := .tup ys) (by show (match toPs ys with | some ps => some (PyData.tuple ps) | none => none) = _; rw [e2]) h2, s1, s2, q⟩)
  | wtp ys =>
    have h : dataIn a ys .tuple = some c := by cases a <;> exact h
    obtain ⟨p, ps, e1, e2, s1, s2, rfl⟩ := dataIn_of h
    exact .inr (.inl ⟨p, ps, toP_vw e1 h1, toP_vw (d := .wtp ys) (by show (match toPs ys with | some ps => some (PyData.tuple ps) | none => none) = _; rw [e2]) h2, s1, s2, q⟩)
  | str z =>
    cases a with
    | str t =>
      obtain ⟨⟨l⟩⟩ := t
      match l, h, h1 with
      | [c0], h, h1 =>
        have h : some (decide (c0 ∈ z.cps.toList)) = some c := h
        cases h
        exact .inr (.inr (.inl ⟨c0, z, h1.str, h2.str, q⟩))
      | [], h, _ => cases h
      | _ :: _ :: _, h, _ => cases h
    | _ => cases h
  | dk kvs =>
    have h : (dictAt (.dk kvs) a).map Option.isSome = some c := by cases a <;> exact h
    cases e : dictAt (.dk kvs) a with
    | none => rw [e] at h; cases h
    | some z => rw [e] at h; cases h; exact .inr (.inr (.inr (dict z e rfl)))
  | dt kvs =>
    have h : (dictAt (.dt kvs) a).map Option.isSome = some c := by cases a <;> exact h
    cases e : dictAt (.dt kvs) a with
    | none => rw [e] at h; cases h
    | some z => rw [e] at h; cases h; exact .inr (.inr (.inr (dict z e rfl)))
  | _ => cases a <;> cases h
def pIn : Pr := cmpPr .In inS
def pNin : Pr := cmpPr .NotIn ninS
theorem pIn_ok {C : Cn} : pIn.Ok C := cmpPr_ok (fun x y d h => by
    unfold inS at h
    cases e : inB x y with
    | none => rw [e] at h; cases h
    | some b => rw [e] at h; cases h; exact ⟨b, rfl⟩) fun {N sc n W X} hX => by
  refine OpR.weak (op_inAll (by have := hX.room.un; omega)) fun x y H Q h => ?_
  obtain ⟨Z, a, b, d, hz, h1, h2, hs, q⟩ := rV_bl h
  have hK : X.K = C.K := by rw [hX.cn]; rfl
  rw [hK]
  unfold inS at hs
  cases e : inB a b with
  | none => rw [e] at hs; cases hs
  | some c =>
    rw [e] at hs
    cases hs
    exact inB_read e h1 h2 (q _ rfl)
theorem pNin_ok {C : Cn} : pNin.Ok C := cmpPr_ok (fun x y d h => by
    unfold ninS at h
    cases e : inB x y with
    | none => rw [e] at h; cases h
    | some b => rw [e] at h; cases h; exact ⟨!b, rfl⟩) fun {N sc n W X} hX => by
  refine OpR.weak (op_notInAll (by have := hX.room.un; omega)) fun x y H Q h => ?_
  obtain ⟨Z, a, b, d, hz, h1, h2, hs, q⟩ := rV_bl h
  have hK : X.K = C.K := by rw [hX.cn]; rfl
  rw [hK]
  unfold ninS at hs
  cases e : inB a b with
  | none => rw [e] at hs; cases hs
  | some c =>
    rw [e] at hs
    cases hs
    exact inB_read e h1 h2 (q _ rfl)
/-! ### subscripts -/
def atD (xs : List D) (i : Int) : Option D := atI xs i
def ixS : D → D → Option D
  | .lst xs, .int i => atI xs i
  | .tup xs, .int i => atI xs i
  | .wtp xs, .int i => atI xs i
  | .scr ns, .int i => (atI ns i).map .int
  | .str s, .int i => if s.length ≤ sizeLine then (atI s.cps.toList i).map fun c => .str ⟨#[c]⟩ else none
  | .dk kvs, y => match dictAt (.dk kvs) y with
    | some o => o
    | none => none
  | .dt kvs, y => match dictAt (.dt kvs) y with
    | some o => o
    | none => none
  | _, _ => none
section
variable {X : Cx}
theorem ix_dict (hu : X.A.units + 1 < cLine) : IxR X (fun x y H Q => ∃ a v, x = .ref a ∧ DGet H a y (some v) ∧ Q v H) := by
  intro value slice pins s σ H x y v u Q I rx ry h hs
  obtain ⟨a, w, rfl, g, q⟩ := h
  obtain rfl : v = Value.ref a := rx
  exact PyProof.Rows.tail_any (dict_typeIs I g) PySem.F.slot_dict_getitem.lookup (d_getItem hu I g ry fun w' s3 I3 rw' => ⟨w, H, I3, rw', q⟩) hs
theorem RpL.atI {K : PySem.W.Frag} {Z : Addr → Prop} {H : Hp} {ds : List D} {vs : List V} {i : Int} {d : D} (h : RpL K Z H ds vs) (e : L2.atI ds i = some d) : ∃ v, L2.atI vs i = some v ∧ Rp K Z H d v := by
  unfold L2.atI at e ⊢
  rw [← h.len]
  cases e1 : ixN ds.length i with
  | none => rw [e1] at e; cases e
  | some j =>
    rw [e1] at e
    exact h.get e
end
def plIx : Expr → Bool
  | .Slice _ _ _ _ => false
  | _ => true
theorem plIx_ok {b : Expr} (h : plIx b = true) : PlainIx b := fun o i => by
  cases b <;> first | rfl | cases h
def pIx : Pr where
  rcg := fun _ e => match e with
    | .Subscript a b _ => if plIx b = true then some [a, b] else none
    | _ => none
  sem := sem2 ixS
@[simp] theorem pIx_sem (x y : D) : pIx.sem [x, y] = ixS x y := rfl
theorem pIx_ok {C : Cn} : pIx.Ok C where
  pe := by
    intro N sc n W X hX e es ts h1 h2 h3
    cases e with
    | Subscript a b p =>
      have h1 : (if plIx b = true then some [a, b] else none) = some es := h1
      split at h1
      · rename_i hc
        cases h1
        match ts, h2 with
        | [ta, tb], ⟨ha, hb, _⟩ =>
          refine pe_ix (r := fun x y H Q => rV C pIx [x, y] H Q) (IxR.weak (ix_seq.or (ix_dict (by have := hX.room.un; omega))) fun x y H Q => ?_) ha hb (plIx_ok hc)
          have hK : X.K = C.K := by rw [hX.cn]; rfl
          rw [hK]
          rintro ⟨Z, ds, d, hz, ha, hs, q⟩
          obtain ⟨a, b, rfl, hs⟩ := sem2_of hs
          obtain ⟨v, w, e, h1, h2⟩ := ha.two
          cases e
          have h1 : Vw C.K Z H a x := h1
          have h2 : Vw C.K Z H b y := h2
          have dict : ∀ o, dictAt a b = some o → o = some d → ∃ a v, x = .ref a ∧ DGet H a y (some v) ∧ Q v H := fun o e1 e2 => by
            obtain ⟨ad, rfl, _, w, g, r⟩ := dictAt_get e1 h1 h2
            subst e2
            rcases r with ⟨z, _⟩ | ⟨d2, u, z, rfl, ru⟩
            · cases z
            · cases z
              exact ⟨ad, u, rfl, g, q _ _ _ (PRes.same hz ru)⟩
          cases a with
          | lst xs =>
            cases b with
            | int i =>
              obtain ⟨a1, vs, rfl, g1, g2⟩ := h1.lst
              obtain ⟨u, u1, u2⟩ := g2.atI (show atI xs i = some d from hs)
              exact .inl (.inl ⟨a1, vs, i, u, rfl, h2.int, .of g1, u1, q _ _ _ (PRes.same hz u2)⟩)
            | _ => cases hs
          | tup xs =>
            cases b with
            | int i =>
              obtain ⟨a1, vs, rfl, g1, g2⟩ := h1.tup
              obtain ⟨u, u1, u2⟩ := g2.atI (show atI xs i = some d from hs)
              exact .inl (.inr (.inl ⟨a1, vs, i, u, rfl, h2.int, g1, u1, q _ _ _ (PRes.same hz u2)⟩))
            | _ => cases hs
          | wtp xs =>
            cases b with
            | int i =>
              obtain ⟨a1, vs, rfl, g1, g2⟩ := h1.wtp
              obtain ⟨u, u1, u2⟩ := g2.atI (show atI xs i = some d from hs)
              exact .inl (.inr (.inl ⟨a1, vs, i, u, rfl, h2.int, g1, u1, q _ _ _ (PRes.same hz u2)⟩))
            | _ => cases hs
          | scr ns =>
            cases b with
            | int i =>
              have hs : (atI ns i).map .int = some d := hs
              cases e : atI ns i with
              | none => rw [e] at hs; cases hs
              | some m =>
                rw [e] at hs
                cases hs
                obtain ⟨a1, rfl, g1⟩ := h1.scr
                refine .inl (.inl ⟨a1, _, i, .int m, rfl, h2.int, g1, ?_, q _ _ _ (PRes.same hz rfl)⟩)
                unfold L2.atI at e ⊢
                rw [List.length_map]
                cases e1 : ixN ns.length i with
                | none => rw [e1] at e; cases e
                | some j =>
                  rw [e1] at e
                  have e : ns[j]? = some m := e
                  show (ns.map V.int)[j]? = _
                  rw [List.getElem?_map, e]
                  rfl
            | _ => cases hs
          | str z =>
            cases b with
            | int i =>
              have hs : (if z.length ≤ sizeLine then (atI z.cps.toList i).map fun c => D.str ⟨#[c]⟩ else none) = some d := hs
              split at hs
              · rename_i hl
                cases e : atI z.cps.toList i with
                | none => rw [e] at hs; cases hs
                | some c =>
                  rw [e] at hs
                  cases hs
                  exact .inl (.inr (.inr ⟨z, i, c, h1.str, h2.int, hl, e, q _ _ _ (PRes.same hz rfl)⟩))
              · cases hs
            | _ => cases hs
          | dk kvs =>
            have hs : (match dictAt (.dk kvs) b with
              | some o => o
              | none => none) = some d := by cases b <;> exact hs
            cases e : dictAt (.dk kvs) b with
            | none => rw [e] at hs; cases hs
            | some o => rw [e] at hs; exact .inr (dict o e hs)
          | dt kvs =>
            have hs : (match dictAt (.dt kvs) b with
              | some o => o
              | none => none) = some d := by cases b <;> exact hs
            cases e : dictAt (.dt kvs) b with
            | none => rw [e] at hs; cases hs
            | some o => rw [e] at hs; exact .inr (dict o e hs)
          | _ => cases b <;> cases hs
      · cases h1
    | _ => cases h1
  nc := by
    intro sc e es h
    cases e <;> first | rfl | cases h
  bl := fun h => by cases h
  pt := fun h => by cases h
/-! ### displays -/
section
variable {X : Cx} {es : List Expr} {t : TA} {R : List V → Hp → VK → Prop}
theorem pe_lstR {pos : Pos} (h : PA X es t) (w : ∀ xs H Q, R xs H Q → xs.length ≤ sizeLine ∧ ∀ p, H p = none → Q (.ref p) (upd H p (.lst xs))) : PE X (.List es pos) (fun σ H Q => t σ H fun xs H1 => R xs H1 Q) := by
  refine ⟨fun pins s σ H Q I hq => ?_⟩
  refine wpAny_List_spliced (thn (h.run pos pins s σ H _ I hq) fun us s1 ⟨xs, H1, I1, r, rr⟩ => ?_)
  obtain ⟨z, q⟩ := w _ _ _ rr
  have hf : H1 s1.heap.objs.size = none := I1.hok.fresh (Nat.le_refl _)
  refine ⟨by rw [← r.length]; exact z, .ref s1.heap.objs.size, upd H1 s1.heap.objs.size (.lst xs), I1.laid (t' := s1.toks) (fun b u e => Heap.get?_push_of_some _ e) (Nat.le_refl _) ?_, rfl, q _ hf⟩
  exact ⟨z, us, 0, r, Heap.get?_push_size _ rfl⟩
end
theorem Args.allL {K : PySem.W.Frag} {Z : Addr → Prop} {H : Hp} : ∀ {j : Nat} {ds : List D} {vs : List V}, Args K Z H (fun _ => true) j ds vs → RpL K Z H ds vs := Args.rpL
def tupS (ds : List D) : Option D := if ds.length ≤ sizeLine then some (.tup ds) else none
def pTup : Pr where
  rcg := fun _ e => match e with
    | .Tuple es _ _ => some es
    | _ => none
  sem := tupS
  esc := fun _ => true
theorem pTup_ok {C : Cn} : pTup.Ok C where
  pe := by
    intro N sc n W X hX e es ts h1 h2 h3
    cases e with
    | Tuple es' k p =>
      cases h1
      refine pe_tupX (R := fun xs H Q => rV C pTup xs H Q) (h2.pa h3) fun xs H Q => ?_
      rintro ⟨Z, ds, d, hz, ha, hs, q⟩
      have hs : (if ds.length ≤ sizeLine then some (D.tup ds) else none) = some d := hs
      split at hs
      · rename_i hl
        cases hs
        have r := Args.allL ha
        exact ⟨by rw [← r.len]; exact hl, fun p o hp hd => q _ _ _ (PRes.newT hz hp hd r)⟩
      · cases hs
    | _ => cases h1
  nc := by
    intro sc e es h
    cases e <;> first | rfl | cases h
  bl := fun h => by cases h
  pt := fun h => by cases h
def lstS (ds : List D) : Option D := if ds.length ≤ sizeLine then some (.lst ds) else none
def pLst : Pr where
  rcg := fun _ e => match e with
    | .List es _ => some es
    | _ => none
  sem := lstS
  nw := true
  esc := fun _ => true
theorem pLst_ok {C : Cn} : pLst.Ok C where
  pe := by
    intro N sc n W X hX e es ts h1 h2 h3
    cases e with
    | List es' p =>
      cases h1
      refine pe_lstR (R := fun xs H Q => rV C pLst xs H Q) (h2.pa h3) fun xs H Q => ?_
      rintro ⟨Z, ds, d, hz, ha, hs, q⟩
      have hs : (if ds.length ≤ sizeLine then some (D.lst ds) else none) = some d := hs
      split at hs
      · rename_i hl
        cases hs
        have r := Args.allL ha
        refine ⟨by rw [← r.len]; exact hl, fun p hp => ?_⟩
        obtain ⟨Z2, pr⟩ := PRes.newL (nw := true) hz hp r
        exact q _ _ _ pr
      · cases hs
    | _ => cases h1
  nc := by
    intro sc e es h
    cases e <;> first | rfl | cases h
  bl := fun h => by cases h
  pt := fun h => by cases h
/-- {}, keys are numbers or texts -/
def pDk : Pr where
  rcg := fun _ e => match e with
    | .Dict [] [] _ => some []
    | _ => none
  sem := fun ds => match ds with
    | [] => some (.dk [])
    | _ => none
  nw := true
/-- {}, keys are tuples -/
def pDt : Pr where
  rcg := fun _ e => match e with
    | .Dict [] [] _ => some []
    | _ => none
  sem := fun ds => match ds with
    | [] => some (.dt [])
    | _ => none
  nw := true
theorem dict_shape {e : Expr} {es : List Expr} {f : Expr → Option (List Expr)} (hf : ∀ e, f e = match e with
    | .Dict [] [] _ => some []
    | _ => none) (h : f e = some es) : ∃ p, e = .Dict [] [] p ∧ es = [] := by
  rw [hf] at h
  split at h
  · cases h; exact ⟨_, rfl, rfl⟩
  · cases h
theorem pDk_ok {C : Cn} : pDk.Ok C where
  pe := by
    intro N sc n W X hX e es ts h1 h2 h3
    obtain ⟨p, rfl, rfl⟩ := dict_shape (f := pDk.rcg sc) (fun _ => rfl) h1
    match ts, h2 with
    | [], _ =>
      refine PE.weak pe_dnewK fun c H Q => ?_
      rintro ⟨Z, ds, d, hz, ha, hs, q⟩ p hp
      match ds, hs with
      | [], hs =>
        cases hs
        obtain ⟨Z2, pr⟩ := PRes.new (K := C.K) (nw := true) (d := .dk []) (o := .dK []) hz hp ⟨[], upd_same, rfl⟩
        exact q _ _ _ pr
  nc := by
    intro sc e es h
    obtain ⟨p, rfl, rfl⟩ := dict_shape (f := pDk.rcg sc) (fun _ => rfl) h
    rfl
  bl := fun h => by cases h
  pt := fun h => by cases h
theorem pDt_ok {C : Cn} : pDt.Ok C where
  pe := by
    intro N sc n W X hX e es ts h1 h2 h3
    obtain ⟨p, rfl, rfl⟩ := dict_shape (f := pDt.rcg sc) (fun _ => rfl) h1
    match ts, h2 with
    | [], _ =>
      refine PE.weak pe_dnewT fun c H Q => ?_
      rintro ⟨Z, ds, d, hz, ha, hs, q⟩ p hp
      match ds, hs with
      | [], hs =>
        cases hs
        obtain ⟨Z2, pr⟩ := PRes.new (K := C.K) (nw := true) (d := .dt []) (o := .dT []) hz hp ⟨[], upd_same, rfl⟩
        exact q _ _ _ pr
  nc := by
    intro sc e es h
    obtain ⟨p, rfl, rfl⟩ := dict_shape (f := pDt.rcg sc) (fun _ => rfl) h
    rfl
  bl := fun h => by cases h
  pt := fun h => by cases h
end G
end
section
set_option maxRecDepth 10000
/-! Built-in functions: len, tuple, list, dict, sum, sorted. -/
namespace G
open PySem L2 PySem.Spec
def cbPr (n : Str) (f : List D → Option D) (nw : Bool := false) : Pr where
  rcg := fun sc e => match e with
    | .Call (.Name x _) (a :: es) [] _ => if (decide (x = n) && glB sc x && plainName x && decide (x ≠ ("__name__" : Str))) = true then some (a :: es) else none
    | _ => none
  sem := f
  nw := nw
theorem cb_shape {n : Str} {f : List D → Option D} {nw : Bool} {sc : Scope} {e : Expr} {es : List Expr} (h : (cbPr n f nw).rcg sc e = some es) : ∃ p pos a er, e = .Call (.Name n p) (a :: er) [] pos ∧ es = a :: er ∧ glB sc n = true ∧ plainName n = true ∧ n ≠ ("__name__" : Str) := by
  cases e with
  | Call fe as ks pos =>
    cases fe with
    | Name x p =>
      cases as with
      | nil => cases h
      | cons a er =>
        cases ks with
        | cons _ _ => cases h
        | nil =>
          have h : (if (decide (x = n) && glB sc x && plainName x && decide (x ≠ ("__name__" : Str))) = true then some (a :: er) else none) = some es := h
          split at h
          · rename_i h0
            cases h
            simp only [Bool.and_eq_true, decide_eq_true_eq] at h0
            obtain ⟨⟨⟨rfl, h2⟩, h3⟩, h4⟩ := h0
            exact ⟨p, pos, a, er, rfl, rfl, h2, h3, h4⟩
          · cases h
    | _ => cases as <;> cases h
  | _ => cases h
/-- v: what the name is of old -/
theorem cbPr_ok {C : Cn} {n : Str} {f : List D → Option D} {nw : Bool} {v : Value} (hv : bootBuiltins n = some v) (ht : (∃ id, v = .builtin id) ∨ ∃ T, v = .type T) (hm : C.mg n = none)
    (h : ∀ {N : List Str} {sc : Scope} {k : Nat} {W : WX} {X : Cx}, XOk C N sc k W X → CallR X v (fun xs H Q => rV C (cbPr n f nw) xs H Q)) : (cbPr n f nw).Ok C where
  pe := by
    intro N sc k W X hX e es ts h1 h2 h3
    obtain ⟨p, pos, a, er, rfl, rfl, g1, g2, g3⟩ := cb_shape h1
    obtain ⟨s1, s2⟩ := noStar_cons h3
    have hmX : X.mg n = none := by rw [hX.cn] at hm; exact hm
    have hg : Gl X n := glB_gl (by rw [← hX.sc]; exact g1)
    rcases ht with ⟨id, rfl⟩ | ⟨T, rfl⟩
    · exact pe_callB (h hX) hg hmX hv (h2.pa h3) g3 (plainName_ne g2).1 (star_no s1) (noStar_any s2)
    · exact pe_callTy (h hX) hg hmX hv (h2.pa h3) g3 (plainName_ne g2).1 (star_no s1) (noStar_any s2)
  nc := by
    intro sc e es h
    obtain ⟨p, pos, a, er, rfl, rfl, g1, g2, g3⟩ := cb_shape h
    rfl
  bl := fun h => by cases h
  pt := fun h => by cases h
/-! ### len -/
def lenS : D → Option D
  | .lst xs => some (.int xs.length)
  | .tup xs => some (.int xs.length)
  | .wtp xs => some (.int xs.length)
  | .scr ns => some (.int ns.length)
  | .str s => if s.length ≤ sizeLine then some (.int s.length) else none
  | .dk kvs => some (.int kvs.length)
  | .dt kvs => some (.int kvs.length)
  | _ => none
def pLen : Pr := cbPr "len" (sem1 lenS)
@[simp] theorem pLen_sem (x : D) : pLen.sem [x] = lenS x := rfl
theorem RpK.length' {K : PySem.W.Frag} {Z : Addr → Prop} {H : Hp} {ds : List (Ky × D)} {ks : List (Ky × V)} (h : RpK K Z H ds ks) : ds.length = ks.length := by
  have := congrArg List.length (RpK.len h)
  rwa [List.length_map, List.length_map] at this
theorem RpT.length' {K : PySem.W.Frag} {Z : Addr → Prop} {H : Hp} {ds : List (List Ky × D)} {ks : List (List Ky × V)} (h : RpT K Z H ds ks) : ds.length = ks.length := by
  have := congrArg List.length (RpT.len h)
  rwa [List.length_map, List.length_map] at this
section
variable {X : Cx}
theorem call_len_dk : CallR X (.builtin "len") (fun xs H Q => ∃ a kvs, xs = [V.ref a] ∧ Rd H a (.dK kvs) ∧ Q (.int kvs.length) H) := by
  intro pins s σ H xs us Q I r h
  obtain ⟨a, kvs, rfl, ha, q⟩ := h
  obtain ⟨u, rfl, ru⟩ := vals1 r
  cases ru
  exact d_len I ha fun t s' I' => ⟨.int kvs.length, H, I', ⟨t, rfl⟩, q⟩
theorem call_len_dt : CallR X (.builtin "len") (fun xs H Q => ∃ (a : Addr) (kvs : List (List Ky × V)), xs = [V.ref a] ∧ Rd H a (.dT kvs) ∧ Q (.int kvs.length) H) := by
  intro pins s σ H xs us Q I r h
  obtain ⟨p, kvs, rfl, hp, q⟩ := h
  obtain ⟨u, rfl, rx⟩ := vals1 r
  obtain rfl : u = .ref p := rx
  obtain ⟨z, hd, ys, rel, dd⟩ := dt_rd I.hok hp
  have hl : kvs.length = ys.length := Paired.length rel
  refine call_len_dictH hd dd (by rw [← hl]; rw [sizeLine_eq] at z; omega) ?_
  rw [← hl]
  exact ⟨.int ((kvs.length : Nat) : Int), H, I.tok _, ⟨_, rfl⟩, q⟩
end
theorem pLen_ok {C : Cn} (hm : C.mg "len" = none) : pLen.Ok C := cbPr_ok PySem.boot_len (.inl ⟨_, rfl⟩) hm fun {N sc k W X} hX => by
  have hK : X.K = C.K := by rw [hX.cn]; rfl
  refine CallR.weak (CallR.both call_len (CallR.both call_len_dk call_len_dt)) fun xs H Q => ?_
  rintro ⟨Z, ds, d, hz, ha, hs, q⟩
  obtain ⟨a, rfl, hs⟩ := sem1_of hs
  obtain ⟨v, rfl, h1⟩ := ha.one
  have h1 : Vw C.K Z H a v := h1
  rw [hK]
  cases a with
  | lst xs =>
    obtain ⟨a1, vs, rfl, g1, g2⟩ := h1.lst
    cases hs
    exact .inl ⟨_, _, rfl, .inl ⟨vs, .of g1, rfl⟩, by rw [← g2.len]; exact q _ _ _ (PRes.same hz rfl)⟩
  | tup xs =>
    obtain ⟨a1, vs, rfl, g1, g2⟩ := h1.tup
    cases hs
    exact .inl ⟨_, _, rfl, .inr ⟨vs, g1, rfl⟩, by rw [← g2.len]; exact q _ _ _ (PRes.same hz rfl)⟩
  | wtp xs =>
    obtain ⟨a1, vs, rfl, g1, g2⟩ := h1.wtp
    cases hs
    exact .inl ⟨_, _, rfl, .inr ⟨vs, g1, rfl⟩, by rw [← g2.len]; exact q _ _ _ (PRes.same hz rfl)⟩
  | scr ns =>
    obtain ⟨a1, rfl, g1⟩ := h1.scr
    cases hs
    exact .inl ⟨_, _, rfl, .inl ⟨_, g1, rfl⟩, by rw [List.length_map]; exact q _ _ _ (PRes.same hz rfl)⟩
  | str z =>
    have hs : (if z.length ≤ sizeLine then some (D.int z.length) else none) = some d := hs
    split at hs
    · rename_i hl
      cases hs
      exact .inl ⟨_, _, rfl, by rw [h1.str]; exact ⟨hl, rfl⟩, q _ _ _ (PRes.same hz rfl)⟩
    · cases hs
  | dk kvs =>
    obtain ⟨a1, ks, rfl, g1, g2⟩ := h1.dk
    cases hs
    exact .inr (.inl ⟨_, _, rfl, g1, by rw [← g2.length']; exact q _ _ _ (PRes.same hz rfl)⟩)
  | dt kvs =>
    obtain ⟨a1, ks, rfl, g1, g2⟩ := h1.dt
    cases hs
    exact .inr (.inr ⟨_, _, rfl, g1, by rw [← g2.length']; exact q _ _ _ (PRes.same hz rfl)⟩)
  | _ => cases hs
/-! ### tuple, list -/
def tupleS : D → Option D
  | .lst xs => some (.tup xs)
  | .tup xs => some (.tup xs)
  | _ => none
def pTuple : Pr := cbPr "tuple" (sem1 tupleS)
@[simp] theorem pTuple_sem (x : D) : pTuple.sem [x] = tupleS x := rfl
theorem pTuple_ok {C : Cn} (hm : C.mg "tuple" = none) : pTuple.Ok C := cbPr_ok PyProof.Rows.boot_tuple (.inr ⟨_, rfl⟩) hm fun {N sc k W X} hX => by
  have hK : X.K = C.K := by rw [hX.cn]; rfl
  refine CallR.weak call_tuple_ofX fun xs H Q => ?_
  rintro ⟨Z, ds, d, hz, ha, hs, q⟩
  obtain ⟨a, rfl, hs⟩ := sem1_of hs
  obtain ⟨v, rfl, h1⟩ := ha.one
  have h1 : Vw C.K Z H a v := h1
  rw [hK]
  cases a with
  | lst xs =>
    obtain ⟨a1, vs, rfl, g1, g2⟩ := h1.lst
    cases hs
    exact ⟨a1, vs, rfl, .inl ⟨.of g1, fun l o hl hd => q _ _ _ (PRes.newT hz hl hd g2)⟩⟩
  | tup xs =>
    obtain ⟨a1, vs, rfl, ⟨o1, g1, g3⟩, g2⟩ := h1.tupX
    cases hs
    exact ⟨a1, vs, rfl, .inr ⟨.inl (.inr ⟨o1, g1⟩), q _ _ _ (PRes.same hz ⟨a1, vs, rfl, ⟨o1, g1, g3⟩, g2⟩)⟩⟩
  | _ => cases hs
def keyD : Ky → D
  | .inl i => .int i
  | .inr x => .str x
def listS : D → Option D
  | .lst xs => some (.lst xs)
  | .tup xs => some (.lst xs)
  | .dk kvs => some (.lst (kvs.map fun p => keyD p.1))
  | _ => none
def pList : Pr := cbPr "list" (sem1 listS) true
@[simp] theorem pList_sem (x : D) : pList.sem [x] = listS x := rfl
theorem RpK.keysL {K : PySem.W.Frag} {Z : Addr → Prop} {H : Hp} : ∀ {ds : List (Ky × D)} {ks : List (Ky × V)}, RpK K Z H ds ks → RpL K Z H (ds.map fun p => keyD p.1) (ks.map fun p => kV p.1)
  | [], _, h => by rw [show _ = [] from h]; rfl
  | (k, d) :: ds, _, ⟨v, r, e, h1, h2⟩ => by
    subst e
    exact ⟨kV k, _, rfl, by cases k <;> rfl, RpK.keysL h2⟩
theorem pList_ok {C : Cn} (hm : C.mg "list" = none) : pList.Ok C := cbPr_ok PyProof.Rows.boot_list (.inr ⟨_, rfl⟩) hm fun {N sc k W X} hX => by
  have hK : X.K = C.K := by rw [hX.cn]; rfl
  refine CallR.weak (CallR.both call_list_of (call_listD hX.calm)) fun xs H Q => ?_
  rintro ⟨Z, ds, d, hz, ha, hs, q⟩
  obtain ⟨a, rfl, hs⟩ := sem1_of hs
  obtain ⟨v, rfl, h1⟩ := ha.one
  have h1 : Vw C.K Z H a v := h1
  rw [hK]
  cases a with
  | lst xs =>
    obtain ⟨a1, vs, rfl, g1, g2⟩ := h1.lst
    cases hs
    refine .inl ⟨a1, vs, rfl, .inl (.of g1), fun l hl => ?_⟩
    obtain ⟨Z2, r⟩ := PRes.newL (nw := true) hz hl g2
    exact q _ _ _ r
  | tup xs =>
    obtain ⟨a1, vs, rfl, g1, g2⟩ := h1.tup
    cases hs
    refine .inl ⟨a1, vs, rfl, .inr g1, fun l hl => ?_⟩
    obtain ⟨Z2, r⟩ := PRes.newL (nw := true) hz hl g2
    exact q _ _ _ r
  | dk kvs =>
    obtain ⟨a1, ks, rfl, g1, g2⟩ := h1.dk
    cases hs
    refine .inr ⟨a1, ks, rfl, g1, fun l hl => ?_⟩
    obtain ⟨Z2, r⟩ := PRes.newL (nw := true) hz hl g2.keysL
    exact q _ _ _ r
  | _ => cases hs
/-! ### sum -/
def intsOf (ds : List D) : Option (List Int) := ds.mapM isInt
def sumS : D → Option D
  | .lst ds => (intsOf ds).map fun ns => .int ns.sum
  | _ => none
def pSum : Pr := cbPr "sum" (sem1 sumS)
@[simp] theorem pSum_sem (x : D) : pSum.sem [x] = sumS x := rfl
theorem pSum_ok {C : Cn} (hm : C.mg "sum" = none) : pSum.Ok C := cbPr_ok PyProof.Rows.boot_sum (.inl ⟨_, rfl⟩) hm fun {N sc k W X} hX => by
  have hK : X.K = C.K := by rw [hX.cn]; rfl
  refine CallR.weak (cr_sum hX.calm) fun xs H Q => ?_
  rintro ⟨Z, ds, d, hz, ha, hs, q⟩
  obtain ⟨a, rfl, hs⟩ := sem1_of hs
  obtain ⟨v, rfl, h1⟩ := ha.one
  have h1 : Vw C.K Z H a v := h1
  rw [hK]
  cases a with
  | lst xs =>
    obtain ⟨a1, vs, rfl, g1, g2⟩ := h1.lst
    have hs : (intsOf xs).map (fun ns => D.int ns.sum) = some d := hs
    cases e : intsOf xs with
    | none => rw [e] at hs; cases hs
    | some ns =>
      rw [e] at hs
      cases hs
      have := ints_of e
      subst this
      have := g2.ints
      subst this
      exact ⟨a1, ns, rfl, .of g1, q _ _ _ (PRes.same hz rfl)⟩
  | _ => cases hs
/-! ### dict(..) -/
/-- pairs, as keys and values -/
def pairD : D → Option (Ky × D)
  | .tup [k, v] => (keyOf k).map fun k => (k, v)
  | _ => none
def pairsD : List D → Option (List (Ky × D))
  | [] => some []
  | d :: ds => match pairD d, pairsD ds with
    | some p, some ps => some (p :: ps)
    | _, _ => none
def dictS : D → Option D
  | .lst ds => (pairsD ds).map fun ps => .dk (mergeD [] ps)
  | .tup ds => (pairsD ds).map fun ps => .dk (mergeD [] ps)
  | .dk kvs => some (.dk kvs)
  | _ => none
def pDict : Pr := cbPr "dict" (sem1 dictS) true
@[simp] theorem pDict_sem (x : D) : pDict.sem [x] = dictS x := rfl
/-- the key and value of a pair may be a tuple that one has -/
theorem pairsD_ok {K : PySem.W.Frag} {Z : Addr → Prop} {H : Hp} : ∀ {ds : List D} {ps : List (Ky × D)} {vs : List V}, pairsD ds = some ps → RpL K Z H ds vs →
    ∃ (as : List Addr) (kvs : List (Ky × V)), vs = as.map V.ref ∧ Paired (fun p kv => SqT K H p [kV kv.1, kv.2]) as kvs ∧ RpK K Z H ps kvs
  | [], ps, vs, h, r => by
    cases h
    rw [show vs = [] from r]
    exact ⟨[], [], rfl, .nil, rfl⟩
  | d :: ds, ps, vs, h, ⟨v, vr, e, r1, r2⟩ => by
    have h : (match pairD d, pairsD ds with
      | some p, some ps => some (p :: ps)
      | _, _ => none) = some ps := h
    cases e1 : pairD d with
    | none => rw [e1] at h; cases h
    | some p =>
      cases e2 : pairsD ds with
      | none => rw [e1, e2] at h; cases h
      | some pr =>
        rw [e1, e2] at h
        cases h
        obtain ⟨as, kvs, g1, g2, g3⟩ := pairsD_ok e2 r2
        match d, e1, r1 with
        | .tup [k, x], e1, r1 =>
          obtain ⟨a, xs, rfl, ⟨o1, q1, _⟩, kv, rest, rfl, q2, xv, rest2, rfl, q3, q4⟩ := r1
          have e1 : (keyOf k).map (fun k => (k, x)) = some p := e1
          cases e3 : keyOf k with
          | none => rw [e3] at e1; cases e1
          | some kk =>
            rw [e3] at e1
            cases e1
            have q4 : rest2 = [] := q4
            subst q4
            subst e
            have hk := keyOf_ok e3 q2
            subst hk
            exact ⟨a :: as, (kk, xv) :: kvs, by rw [g1]; try rfl, .cons (.inl (.inr ⟨o1, q1⟩)) g2, ⟨xv, kvs, rfl, q3, g3⟩⟩
theorem pDict_ok {C : Cn} (hm : C.mg "dict" = none) : pDict.Ok C := cbPr_ok PyProof.Rows.boot_dict (.inr ⟨_, rfl⟩) hm fun {N sc k W X} hX => by
  have hK : X.K = C.K := by rw [hX.cn]; rfl
  refine CallR.weak (CallR.both (call_dictP hX.calm) (CallR.both (call_dictT hX.calm) call_dictD)) fun xs H Q => ?_
  rintro ⟨Z, ds, d, hz, ha, hs, q⟩
  obtain ⟨a, rfl, hs⟩ := sem1_of hs
  obtain ⟨v, rfl, h1⟩ := ha.one
  have h1 : Vw C.K Z H a v := h1
  rw [hK]
  cases a with
  | lst xs =>
    obtain ⟨a1, vs, rfl, g1, g2⟩ := h1.lst
    have hs : (pairsD xs).map (fun ps => D.dk (mergeD [] ps)) = some d := hs
    cases e : pairsD xs with
    | none => rw [e] at hs; cases hs
    | some ps =>
      rw [e] at hs
      cases hs
      obtain ⟨as, kvs, rfl, k2, k3⟩ := pairsD_ok e g2
      refine .inl ⟨a1, as, kvs, rfl, .of g1, k2, fun p hp => ?_⟩
      obtain ⟨Z2, r⟩ := PRes.new (K := C.K) (nw := true) (d := .dk (mergeD [] ps)) (o := .dK (mergeK [] kvs)) hz hp ⟨_, upd_same, RpK.mono (new_mono hp) _ _ (k3.merge rfl)⟩
      exact q _ _ _ r
  | tup xs =>
    obtain ⟨a1, vs, rfl, ⟨o1, g1, g3⟩, g2⟩ := h1.tupX
    have hs : (pairsD xs).map (fun ps => D.dk (mergeD [] ps)) = some d := hs
    cases e : pairsD xs with
    | none => rw [e] at hs; cases hs
    | some ps =>
      rw [e] at hs
      cases hs
      obtain ⟨as, kvs, rfl, k2, k3⟩ := pairsD_ok e g2
      refine .inr (.inl ⟨a1, o1, as, kvs, rfl, g1, g3, k2, fun p hp => ?_⟩)
      obtain ⟨Z2, r⟩ := PRes.new (K := C.K) (nw := true) (d := .dk (mergeD [] ps)) (o := .dK (mergeK [] kvs)) hz hp ⟨_, upd_same, RpK.mono (new_mono hp) _ _ (k3.merge rfl)⟩
      exact q _ _ _ r
  | dk kvs =>
    obtain ⟨a1, ks, rfl, g1, g2⟩ := h1.dk
    cases hs
    refine .inr (.inr ⟨a1, ks, rfl, g1, fun p hp => ?_⟩)
    obtain ⟨Z2, r⟩ := PRes.new (K := C.K) (nw := true) (d := .dk kvs) (o := .dK ks) hz hp ⟨_, upd_same, RpK.mono (new_mono hp) _ _ g2⟩
    exact q _ _ _ r
  | _ => cases hs
end G
end
section
set_option maxRecDepth 10000
/-! sorted; d.get; things that are walked. -/
namespace G
open PySem L2 PySem.Spec
/-! ### texts in order -/
theorem ltC_anti : ∀ {a b : List Nat}, ltCps a b = false → ltCps b a = false → a = b
  | [], [], _, _ => rfl
  | [], _ :: _, h, _ => by cases h
  | _ :: _, [], _, h => by cases h
  | x :: a, y :: b, h1, h2 => by
    have h1 : (decide (x < y) || (x == y && ltCps a b)) = false := h1
    have h2 : (decide (y < x) || (y == x && ltCps b a)) = false := h2
    rw [Bool.or_eq_false_iff, decide_eq_false_iff_not] at h1 h2
    have e : x = y := by omega
    subst e
    rw [beq_self_eq_true, Bool.true_and] at h1 h2
    rw [ltC_anti h1.2 h2.2]
theorem ltC_asym : ∀ {a b : List Nat}, ltCps a b = true → ltCps b a = false
  | [], [], h => by cases h
  | [], _ :: _, _ => rfl
  | _ :: _, [], h => by cases h
  | x :: a, y :: b, h => by
    have h' : (decide (x < y) || (x == y && ltCps a b)) = true := h
    clear h
    show (decide (y < x) || (y == x && ltCps b a)) = false
    rw [Bool.or_eq_true, decide_eq_true_eq, Bool.and_eq_true, beq_iff_eq] at h'
    rw [Bool.or_eq_false_iff, decide_eq_false_iff_not]
    rcases h' with h | ⟨e, h⟩
    rotate_left
    · subst e
      exact ⟨by omega, by rw [beq_self_eq_true, Bool.true_and]; exact ltC_asym h⟩
    · refine ⟨by omega, ?_⟩
      have : (y == x) = false := by rw [beq_eq_false_iff_ne]; omega
      rw [this]; rfl
/-- ¬ b < a and ¬ c < b give ¬ c < a -/
theorem ltC_trans : ∀ {a b c : List Nat}, ltCps b a = false → ltCps c b = false → ltCps c a = false
  | [], b, [], _, _ => rfl
  | [], _, _ :: _, _, _ => rfl
  | x :: a, [], c, h, _ => by cases h
  | x :: a, y :: b, [], _, h => by cases h
  | x :: a, y :: b, z :: c, h1, h2 => by
    have h1 : (decide (y < x) || (y == x && ltCps b a)) = false := h1
    have h2 : (decide (z < y) || (z == y && ltCps c b)) = false := h2
    show (decide (z < x) || (z == x && ltCps c a)) = false
    rw [Bool.or_eq_false_iff, decide_eq_false_iff_not] at h1 h2 ⊢
    refine ⟨by omega, ?_⟩
    by_cases e : z = x
    · have e1 : y = x := by omega
      subst e; subst e1
      rw [beq_self_eq_true, Bool.true_and] at h1 h2 ⊢
      exact ltC_trans h1.2 h2.2
    · have : (z == x) = false := by rw [beq_eq_false_iff_ne]; exact e
      rw [this]; rfl
def strLe (a b : Str) : Bool := !ltCps b.cps.toList a.cps.toList
theorem strLe_total (a b : Str) : (strLe a b || strLe b a) = true := by
  unfold strLe
  cases h : ltCps b.cps.toList a.cps.toList with
  | false => rfl
  | true => rw [ltC_asym h]; rfl
theorem strLe_trans (a b c : Str) (h1 : strLe a b = true) (h2 : strLe b c = true) : strLe a c = true := by
  unfold strLe at *
  rw [Bool.not_eq_true'] at *
  exact ltC_trans h1 h2
theorem strLe_anti (a b : Str) (h1 : strLe a b = true) (h2 : strLe b a = true) : a = b := by
  unfold strLe at *
  rw [Bool.not_eq_true'] at *
  have := ltC_anti h2 h1
  cases a; cases b
  simp at this
  rw [this]
def sortStr (xs : List Str) : List Str := xs.mergeSort strLe
def sortInt (xs : List Int) : List Int := xs.mergeSort (fun a b => decide (a ≤ b))
theorem rising_pw : ∀ {p : Str} {l : List Str}, PyProof.Rows.risingS p l = true → (p :: l).Pairwise (fun a b => strLe a b = true)
  | p, [], _ => List.pairwise_singleton _ _
  | p, x :: r, h => by
    have h : (!ltCps x.cps.toList p.cps.toList && PyProof.Rows.risingS x r) = true := h
    rw [Bool.and_eq_true] at h
    have ih := rising_pw h.2
    refine List.pairwise_cons.mpr ⟨fun y hy => ?_, ih⟩
    rcases List.mem_cons.mp hy with rfl | hy
    · exact h.1
    · exact strLe_trans _ _ _ h.1 ((List.pairwise_cons.mp ih).1 y hy)
theorem sortStr_of {xs ys : List Str} (h1 : ys.Perm xs) (h2 : PyProof.Rows.sortedS ys = true) : ys = sortStr xs := by
  refine List.Perm.eq_of_pairwise (le := fun a b => strLe a b = true) (fun a b _ _ => strLe_anti a b) ?_ ?_ (h1.trans (List.mergeSort_perm xs strLe).symm)
  · cases ys with
    | nil => exact .nil
    | cons p l => exact rising_pw h2
  · exact List.pairwise_mergeSort strLe_trans strLe_total xs
theorem sortInt_of {xs ys : List Int} (h1 : ys.Perm xs) (h2 : ys.Pairwise (· ≤ ·)) : ys = sortInt xs := by
  refine List.Perm.eq_of_pairwise (le := fun a b => a ≤ b) (fun a b _ _ => Int.le_antisymm) h2 ?_ (h1.trans (List.mergeSort_perm xs _).symm)
  have := List.pairwise_mergeSort (le := fun a b : Int => decide (a ≤ b)) (fun a b c h1 h2 => by simp at *; omega) (fun a b => by simp; omega) xs
  exact this.imp fun h => by simpa using h
def isStr : D → Option Str
  | .str s => some s
  | _ => none
def strsOf (ds : List D) : Option (List Str) := ds.mapM isStr
theorem strs_of : ∀ {xs : List D} {ns : List Str}, strsOf xs = some ns → xs = ns.map .str
  | [], ns, h => by
    simp [strsOf] at h
    rw [h]; rfl
  | x :: xs, ns, h => by
    unfold strsOf at h
    rw [List.mapM_cons] at h
    cases hx : isStr x with
    | none => rw [hx] at h; cases h
    | some n =>
      rw [hx] at h
      cases hr : xs.mapM isStr with
      | none => rw [hr] at h; cases h
      | some nr =>
        rw [hr] at h
        have h : some (n :: nr) = some ns := h
        cases h
        have : x = .str n := by cases x <;> first | (cases hx; rfl) | cases hx
        rw [List.map_cons, this, strs_of (xs := xs) (ns := nr) hr]
theorem RpL.strs {K : PySem.W.Frag} {Z : Addr → Prop} {H : Hp} : ∀ {ns : List Str} {vs : List V}, RpL K Z H (ns.map .str) vs → vs = ns.map V.str
  | [], _, h => h
  | n :: ns, _, ⟨v, r, e, h1, h2⟩ => by
    have h1 : v = .str n := h1
    rw [e, h1, RpL.strs h2]; rfl
theorem RpL.ofStrs {K : PySem.W.Frag} {Z : Addr → Prop} {H : Hp} : ∀ ns : List Str, RpL K Z H (ns.map .str) (ns.map V.str)
  | [] => rfl
  | n :: ns => ⟨.str n, _, rfl, rfl, RpL.ofStrs ns⟩
def keysS (kvs : List (Ky × D)) : Option (List Str) := strsOf (kvs.map fun p => keyD p.1)
def keysI (kvs : List (Ky × D)) : Option (List Int) := intsOf (kvs.map fun p => keyD p.1)
/-- few texts -/
def sortS : D → Option D
  | .lst ds => match intsOf ds with
    | some ns => some (.lst ((sortInt ns).map .int))
    | none => match strsOf ds with
      | some ss => if ss.length < 64 then some (.lst ((sortStr ss).map .str)) else none
      | none => none
  | .dk kvs => match keysS kvs with
    | some ss => if ss.length < 64 then some (.lst ((sortStr ss).map .str)) else none
    | none => match keysI kvs with
      | some ns => if ns.length < 64 then some (.lst ((sortInt ns).map .int)) else none
      | none => none
  | _ => none
def pSorted : Pr := cbPr "sorted" (sem1 sortS) true
@[simp] theorem pSorted_sem (x : D) : pSorted.sem [x] = sortS x := rfl
theorem keyD_s {kvs : List (Ky × D)} {ss : List Str} (h : keysS kvs = some ss) : kvs.map (·.1) = ss.map Sum.inr := by
  have h := strs_of h
  have : ∀ (kvs : List (Ky × D)) (ss : List Str), (kvs.map fun p => keyD p.1) = ss.map D.str → kvs.map (·.1) = ss.map Sum.inr := by
    intro kvs
    induction kvs with
    | nil => intro ss e; cases ss <;> first | rfl | cases e
    | cons p r ih =>
      intro ss e
      cases ss with
      | nil => cases e
      | cons s ss =>
        rw [List.map_cons, List.map_cons] at e
        injection e with e1 e2
        rw [List.map_cons, List.map_cons, ih ss e2]
        obtain ⟨k, d⟩ := p
        cases k with
        | inl i => cases e1
        | inr x => cases e1; rfl
  exact this kvs ss h
theorem keyD_i {kvs : List (Ky × D)} {ss : List Int} (h : keysI kvs = some ss) : kvs.map (·.1) = ss.map Sum.inl := by
  have h := ints_of h
  have : ∀ (kvs : List (Ky × D)) (ss : List Int), (kvs.map fun p => keyD p.1) = ss.map D.int → kvs.map (·.1) = ss.map Sum.inl := by
    intro kvs
    induction kvs with
    | nil => intro ss e; cases ss <;> first | rfl | cases e
    | cons p r ih =>
      intro ss e
      cases ss with
      | nil => cases e
      | cons s ss =>
        rw [List.map_cons, List.map_cons] at e
        injection e with e1 e2
        rw [List.map_cons, List.map_cons, ih ss e2]
        obtain ⟨k, d⟩ := p
        cases k with
        | inl i => cases e1; rfl
        | inr x => cases e1
  exact this kvs ss h
theorem pSorted_ok {C : Cn} (hm : C.mg "sorted" = none) : pSorted.Ok C := cbPr_ok PyProof.Rows.boot_sorted (.inl ⟨_, rfl⟩) hm fun {N sc k W X} hX => by
  have hK : X.K = C.K := by rw [hX.cn]; rfl
  refine CallR.weak (CallR.both cr_sortedI (CallR.both cr_sortedS (CallR.both (call_sortedD hX.calm) (call_sortedDI hX.calm)))) fun xs H Q => ?_
  rintro ⟨Z, ds, d, hz, ha, hs, q⟩
  obtain ⟨a, rfl, hs⟩ := sem1_of hs
  obtain ⟨v, rfl, h1⟩ := ha.one
  have h1 : Vw C.K Z H a v := h1
  rw [hK]
  have outI : ∀ (ns ns' : List Int) (p : Addr), d = .lst ((sortInt ns).map .int) → ns'.Perm ns → ns'.Pairwise (· ≤ ·) → H p = none → Q (.ref p) (upd H p (.lst (ns'.map V.int))) := fun ns ns' p e g1 g2 hp => by
    rw [sortInt_of g1 g2]
    obtain ⟨Z2, r⟩ := PRes.newL (K := C.K) (nw := true) hz hp (RpL.ofInts (sortInt ns))
    exact q _ _ _ (e ▸ r)
  have outS : ∀ (ns ns' : List Str) (p : Addr), d = .lst ((sortStr ns).map .str) → ns'.Perm ns → PyProof.Rows.sortedS ns' = true → H p = none → Q (.ref p) (upd H p (.lst (ns'.map V.str))) := fun ns ns' p e g1 g2 hp => by
    rw [sortStr_of g1 g2]
    obtain ⟨Z2, r⟩ := PRes.newL (K := C.K) (nw := true) hz hp (RpL.ofStrs (sortStr ns))
    exact q _ _ _ (e ▸ r)
  cases a with
  | lst xs =>
    obtain ⟨a1, vs, rfl, g1, g2⟩ := h1.lst
    have hs : (match intsOf xs with
      | some ns => some (D.lst ((sortInt ns).map .int))
      | none => match strsOf xs with
        | some ss => if ss.length < 64 then some (.lst ((sortStr ss).map .str)) else none
        | none => none) = some d := hs
    cases e : intsOf xs with
    | some ns =>
      rw [e] at hs
      cases hs
      have := ints_of e
      subst this
      have := g2.ints
      subst this
      exact .inl ⟨a1, ns, rfl, .of g1, fun ns' p k1 k2 hp => outI ns ns' p rfl k1 k2 hp⟩
    | none =>
      rw [e] at hs
      dsimp only at hs
      cases e2 : strsOf xs with
      | none => rw [e2] at hs; cases hs
      | some ss =>
        rw [e2] at hs
        dsimp only at hs
        split at hs
        · rename_i hl
          cases hs
          have := strs_of e2
          subst this
          have := g2.strs
          subst this
          exact .inr (.inl ⟨a1, ss, rfl, .of g1, hl, fun ns' p k1 k2 hp => outS ss ns' p rfl k1 k2 hp⟩)
        · cases hs
  | dk kvs =>
    obtain ⟨a1, ks, rfl, g1, g2⟩ := h1.dk
    have hs : (match keysS kvs with
      | some ss => if ss.length < 64 then some (D.lst ((sortStr ss).map .str)) else none
      | none => match keysI kvs with
        | some ns => if ns.length < 64 then some (.lst ((sortInt ns).map .int)) else none
        | none => none) = some d := hs
    have hk := RpK.len g2
    cases e : keysS kvs with
    | some ss =>
      rw [e] at hs
      dsimp only at hs
      split at hs
      · rename_i hl
        cases hs
        exact .inr (.inr (.inl ⟨a1, ks, ss, rfl, g1, by rw [← hk, keyD_s e], hl, fun ns' p k1 k2 hp => outS ss ns' p rfl k1 k2 hp⟩))
      · cases hs
    | none =>
      rw [e] at hs
      dsimp only at hs
      cases e2 : keysI kvs with
      | none => rw [e2] at hs; cases hs
      | some ns =>
        rw [e2] at hs
        dsimp only at hs
        split at hs
        · rename_i hl
          cases hs
          exact .inr (.inr (.inr ⟨a1, ks, ns, rfl, g1, by rw [← hk, keyD_i e2], hl, fun ns' p k1 k2 hp => outI ns ns' p rfl k1 k2 hp⟩))
        · cases hs
  | _ => cases hs
end G
end
section
set_option maxRecDepth 10000
/-! d.get; things that are walked: lists, tuples, texts, ranges. -/
namespace G
open PySem L2 PySem.Spec
open PyProof.Rows hiding St
/-! ### walks -/
def rSeq (K : PySem.W.Frag) (x : V) (H : Hp) (R : It → Hp → Prop) : Prop := (∃ a xs, x = .ref a ∧ SqL K H a xs ∧ R (Itl K a) H) ∨ (∃ a xs, x = .ref a ∧ SqT K H a xs ∧ R (Itt K a) H) ∨ ∃ z, x = .str z ∧ R (Its z) H
theorem pi_seqG {X : Cx} {tg l : Expr} {tl : TE} {r : V → Hp → (It → Hp → Prop) → Prop} (hl : PE X l tl) (w : ∀ x H R, r x H R → rSeq X.K x H R) : PI X tg l (fun σ H R => tl σ H fun x H1 => r x H1 R) := by
  refine ⟨fun pins s σ H R I h => ?_⟩
  refine thn (hl.run pins s σ H _ I h) fun v s1 ⟨x, H1, I1, r1, q1⟩ => ?_
  rcases w _ _ _ q1 with ⟨a, xs, e, hq, q⟩ | ⟨a, xs, e, hq, q⟩ | ⟨z, e, q⟩
  · subst e
    cases r1
    obtain ⟨its, rv, p, hz⟩ := I1.list hq
    refine wpAny_pyIter_list p.isList ?_
    refine ⟨s1.heap.objs.size, [s1.heap.objs.size], _, _, H1, rfl, I1.kept (t' := s1.toks) fun b o e => Heap.get?_push_of_some _ e, turn_list a _, ⟨_, Heap.get?_push_size _ rfl, rfl, rfl⟩, fun b hb => ?_, q⟩
    have e : b = s1.heap.objs.size := by simpa using hb
    subst e
    exact I1.fpOk (Nat.le_refl _) (I1.hok.fresh (Nat.le_refl _))
  · subst e
    cases r1
    obtain ⟨its, rv, p, hz⟩ := I1.tuple hq
    refine wpAny_pyIter_tuple (show s1.heap.IsTuple a its.toArray from p) ?_
    refine ⟨s1.heap.objs.size, [s1.heap.objs.size], _, _, H1, rfl, I1.kept (t' := s1.toks) fun b o e => Heap.get?_push_of_some _ e, turn_tuple a _, ⟨_, Heap.get?_push_size _ rfl, rfl, rfl⟩, fun b hb => ?_, q⟩
    have e : b = s1.heap.objs.size := by simpa using hb
    subst e
    exact I1.fpOk (Nat.le_refl _) (I1.hok.fresh (Nat.le_refl _))
  · subst e
    obtain ⟨t, rfl⟩ := r1
    cases ha : z.cps.all (· < 128)
    · exact wpAny_pyIter_wide ha (pi_one (tk := s1.toks) I1 _ (turn_str _ z t "str_iterator" (.inr rfl)) ⟨_, Heap.get?_push_size _ rfl, rfl, rfl⟩ q)
    · exact wpAny_pyIter_ascii ha (pi_one (tk := s1.toks) I1 _ (turn_str _ z t "str_ascii_iterator" (.inl rfl)) ⟨_, Heap.get?_push_size _ rfl, rfl, rfl⟩ q)
def charsD (z : Str) : List D := z.cps.toList.map fun c => .str ⟨#[c]⟩
def seqS : D → Option (List D)
  | .lst xs => some xs
  | .tup xs => some xs
  | .wtp xs => some xs
  | .scr ns => some (ns.map .int)
  | .str z => some (charsD z)
  | _ => none
def semL1 (f : D → Option (List D)) : List D → Option (List D)
  | [x] => f x
  | _ => none
@[simp] theorem semL1_eq (f : D → Option (List D)) (x : D) : semL1 f [x] = f x := rfl
theorem semL1_of {f : D → Option (List D)} {ds : List D} {d : List D} (h : semL1 f ds = some d) : ∃ x, ds = [x] ∧ f x = some d := by
  match ds, h with
  | [x], h => exact ⟨x, rfl, h⟩
/-- a list, a tuple, a text -/
def iSeq : Ip where
  rcg := fun _ _ it => some [it]
  sem := semL1 seqS
@[simp] theorem iSeq_sem (x : D) : iSeq.sem [x] = seqS x := rfl
theorem iSeq_ok {C : Cn} : iSeq.Ok C := by
  intro N sc k W X hX tg it es ts h1 h2 h3
  cases h1
  have hK : X.K = C.K := by rw [hX.cn]; rfl
  match ts, h2 with
  | [t], ⟨ht, _⟩ =>
    refine pi_seqG (r := fun x H R => ∃ Z ds items, (∀ a, Z a → H a ≠ none) ∧ Args C.K Z H (fun _ => false) 0 ds [x] ∧ iSeq.sem ds = some items ∧ ∀ J, GoodIt C.K J ds [x] items → R J H) ht fun x H R => ?_
    rw [hK]
    rintro ⟨Z, ds, items, hz, ha, hs, q⟩
    obtain ⟨a, rfl, hs⟩ := semL1_of hs
    obtain ⟨v, e, h1⟩ := ha.one
    cases e
    have h1 : Vw C.K Z H a x := h1
    have listy : ∀ (p : Addr), x = .ref p → (∀ (Z : Addr → Prop) (H : Hp), Vw C.K Z H a x → ∃ vs, SqL C.K H p vs ∧ RpL C.K Z H items vs) → GoodIt C.K (Itl C.K p) [a] [x] items := fun p ep hv Z2 H2 hz2 ha2 => by
      obtain ⟨v2, e2, h2⟩ := ha2.one
      cases e2
      obtain ⟨vs, g1, g2⟩ := hv Z2 H2 h2
      refine ⟨fun i d hd => ?_, fun i hle => ⟨vs, g1, by rw [← g2.len]; exact hle⟩⟩
      obtain ⟨u, hu, ru⟩ := g2.get hd
      refine ⟨⟨vs, u, g1, hu⟩, ?_⟩
      rintro y H3 ⟨rfl, hy⟩
      refine ⟨fun _ _ h => h, ?_⟩
      have := hy vs g1
      rw [hu] at this; cases this
      exact ru
    have tupy : ∀ (p : Addr), x = .ref p → (∀ (Z : Addr → Prop) (H : Hp), Vw C.K Z H a x → ∃ vs, SqT C.K H p vs ∧ RpL C.K Z H items vs) → GoodIt C.K (Itt C.K p) [a] [x] items := fun p ep hv Z2 H2 hz2 ha2 => by
      obtain ⟨v2, e2, h2⟩ := ha2.one
      cases e2
      obtain ⟨vs, g1, g2⟩ := hv Z2 H2 h2
      refine ⟨fun i d hd => ?_, fun i hle => ⟨vs, g1, by rw [← g2.len]; exact hle⟩⟩
      obtain ⟨u, hu, ru⟩ := g2.get hd
      refine ⟨⟨vs, u, g1, hu⟩, ?_⟩
      rintro y H3 ⟨rfl, hy⟩
      refine ⟨fun _ _ h => h, ?_⟩
      have := hy vs g1
      rw [hu] at this; cases this
      exact ru
    cases a with
    | lst xs =>
      cases hs
      obtain ⟨p, vs, rfl, g1, g2⟩ := h1.lst
      refine .inl ⟨p, vs, rfl, .of g1, q _ (listy p rfl fun Z2 H2 h2 => ?_)⟩
      obtain ⟨p2, vs2, e, k1, k2⟩ := h2.lst
      cases e
      exact ⟨vs2, .of k1, k2⟩
    | tup xs =>
      cases hs
      obtain ⟨p, vs, rfl, g1, g2⟩ := h1.tup
      refine .inr (.inl ⟨p, vs, rfl, g1, q _ (tupy p rfl fun Z2 H2 h2 => ?_)⟩)
      obtain ⟨p2, vs2, e, k1, k2⟩ := h2.tup
      cases e
      exact ⟨vs2, k1, k2⟩
    | wtp xs =>
      cases hs
      obtain ⟨p, vs, rfl, g1, g2⟩ := h1.wtp
      refine .inr (.inl ⟨p, vs, rfl, g1, q _ (tupy p rfl fun Z2 H2 h2 => ?_)⟩)
      obtain ⟨p2, vs2, e, k1, k2⟩ := h2.wtp
      cases e
      exact ⟨vs2, k1, k2⟩
    | scr ns =>
      cases hs
      obtain ⟨p, rfl, g1⟩ := h1.scr
      refine .inl ⟨p, _, rfl, g1, q _ (listy p rfl fun Z2 H2 h2 => ?_)⟩
      obtain ⟨p2, e, k1⟩ := h2.scr
      cases e
      exact ⟨_, k1, RpL.ofInts ns⟩
    | str z =>
      cases hs
      have hx := h1.str
      subst hx
      refine .inr (.inr ⟨z, rfl, q _ fun Z2 H2 hz2 ha2 => ⟨fun i d hd => ?_, fun i hle => ?_⟩⟩)
      · unfold charsD at hd
        rw [List.getElem?_map] at hd
        cases e : z.cps.toList[i]? with
        | none => rw [e] at hd; cases hd
        | some c =>
          rw [e] at hd
          cases hd
          have e' : z.cps[i]? = some c := by rw [← Array.getElem?_toList]; exact e
          have hi : i < z.cps.size := by
            have := (Array.getElem?_eq_some_iff.mp e').1
            exact this
          refine ⟨hi, ?_⟩
          rintro y H3 ⟨rfl, c2, hc, rfl⟩
          rw [e'] at hc; cases hc
          exact ⟨fun _ _ h => h, rfl⟩
      · have : (charsD z).length = z.cps.size := by unfold charsD; simp
        rw [this] at hle
        exact hle
    | _ => cases hs
/-! ### range -/
def rangeL (lo : Int) (n : Nat) : List D := (List.range n).map fun (i : Nat) => .int (lo + (i : Int))
theorem rng_good {K : PySem.W.Frag} {lo : Int} {n : Nat} {ds : List D} {vs : List V} : GoodIt K (Itr lo n) ds vs (rangeL lo n) := by
  intro Z H _ _
  have hl : (rangeL lo n).length = n := by simp [rangeL]
  refine ⟨fun i d hd => ?_, fun i hle => ?_⟩
  · have hi : i < n := by rw [← hl]; exact (List.getElem?_eq_some_iff.mp hd).1
    refine ⟨hi, ?_⟩
    rintro x H1 ⟨rfl, rfl⟩
    refine ⟨fun _ _ h => h, ?_⟩
    unfold rangeL at hd
    rw [List.getElem?_map, List.getElem?_range hi] at hd
    cases hd
    exact rfl
  · show n ≤ i
    rw [← hl]; exact hle
section
variable {X : Cx} {tg : Expr} {r : List V → Hp → (It → Hp → Prop) → Prop}
theorem pi_range1G {a : Expr} {ta : TA} {p pos : Pos} (hg : Gl X "range") (hm : X.mg "range" = none) (ha : PA X [a] ta) (hs : starEach [a] X.env = [(false, eval a X.env)]) (w : ∀ vs H R, r vs H R → ∃ j : Int, vs = [.int j] ∧ -(2 ^ 62) ≤ j ∧ j < 2 ^ 62 ∧ R (Itr 0 j.toNat) H) :
    PI X tg (.Call (.Name "range" p) [a] [] pos) (fun σ H R => ta σ H fun vs H1 => r vs H1 R) := by
  refine ⟨fun pins s σ H R I h => ?_⟩
  refine Call_ (ld_blt I hg hm PyProof.Rows.boot_range (PyProof.Rows.callWith_type1 (thn (ha.run pos pins s σ H _ I h) fun us s1 ⟨vs, H1, I1, r1, q1⟩ => ?_) hs rfl))
  obtain ⟨j, e, b1, b2, q⟩ := w _ _ _ q1
  subst e
  cases r1 with
  | cons r rr =>
    cases rr
    obtain ⟨t, rfl⟩ := r
    exact call_range_1 (range_it I1 (by omega) (by omega) b1 b2 (by simpa using q))
theorem pi_range2G {a b : Expr} {ta : TA} {p pos : Pos} (hg : Gl X "range") (hm : X.mg "range" = none) (ha : PA X [a, b] ta) (hs : starEach [a, b] X.env = [(false, eval a X.env), (false, eval b X.env)]) (hs2 : starEach [b] X.env = [(false, eval b X.env)])
    (w : ∀ vs H R, r vs H R → ∃ i j : Int, vs = [.int i, .int j] ∧ (-(2 ^ 62) ≤ i ∧ i < 2 ^ 62 ∧ -(2 ^ 62) ≤ j ∧ j < 2 ^ 62) ∧ R (Itr i (j - i).toNat) H) : PI X tg (.Call (.Name "range" p) [a, b] [] pos) (fun σ H R => ta σ H fun vs H1 => r vs H1 R) := by
  refine ⟨fun pins s σ H R I h => ?_⟩
  refine Call_ (ld_blt I hg hm PyProof.Rows.boot_range (PyProof.Rows.callWith_type1 (thn (ha.run pos pins s σ H _ I h) fun us s1 ⟨vs, H1, I1, r1, q1⟩ => ?_) (by rw [hs, hs2]) (by rw [hs2]; rfl)))
  obtain ⟨i, j, e, ⟨b1, b2, b3, b4⟩, q⟩ := w _ _ _ q1
  subst e
  cases r1 with
  | cons r rr =>
    cases rr with
    | cons r' rr =>
      cases rr
      obtain ⟨t, rfl⟩ := r
      obtain ⟨t', rfl⟩ := r'
      exact call_range_2 (range_it I1 b1 b2 b3 b4 q)
end
/-- a walk's premise, by values -/
def rIp (C : Cn) (P : Ip) (vs : List V) (H : Hp) (R : It → Hp → Prop) : Prop := ∃ Z ds items, (∀ a, Z a → H a ≠ none) ∧ Args C.K Z H (fun _ => false) 0 ds vs ∧ P.sem ds = some items ∧ ∀ J, GoodIt C.K J ds vs items → R J H
def rng1S : D → Option (List D)
  | .int j => if j.natAbs < 4611686018427387904 then some (rangeL 0 j.toNat) else none
  | _ => none
def iRng1 : Ip where
  rcg := fun sc _ it => match it with
    | .Call (.Name x _) [a] [] _ => if (decide (x = ("range" : Str)) && glB sc x) = true then some [a] else none
    | _ => none
  sem := semL1 rng1S
@[simp] theorem iRng1_sem (x : D) : iRng1.sem [x] = rng1S x := rfl
theorem iRng1_ok {C : Cn} (hm : C.mg "range" = none) : iRng1.Ok C := by
  intro N sc k W X hX tg it es ts h1 h2 h3
  have hmX : X.mg "range" = none := by rw [hX.cn] at hm; exact hm
  obtain ⟨p, pos, a, rfl, rfl, g1⟩ : ∃ p pos a, it = .Call (.Name "range" p) [a] [] pos ∧ es = [a] ∧ glB sc "range" = true := by
    unfold iRng1 at h1
    dsimp only at h1
    split at h1
    · split at h1
      · rename_i h0
        cases h1
        rw [Bool.and_eq_true, decide_eq_true_eq] at h0
        obtain ⟨rfl, g⟩ := h0
        exact ⟨_, _, _, rfl, rfl, g⟩
      · cases h1
    · cases h1
  have hg : Gl X "range" := glB_gl (by rw [← hX.sc]; exact g1)
  obtain ⟨s1, _⟩ := noStar_cons h3
  match ts, h2 with
  | [ta], h2 =>
    refine pi_range1G (r := rIp C iRng1) hg hmX (PEs.pa h2 h3) (star_no s1) fun vs H R => ?_
    rintro ⟨Z, ds, items, hz, ha, hs, q⟩
    obtain ⟨d, rfl, hs⟩ := semL1_of hs
    obtain ⟨v, rfl, h1⟩ := ha.one
    have h1 : Vw C.K Z H d v := h1
    cases d with
    | int j =>
      have hs : (if j.natAbs < 4611686018427387904 then some (rangeL 0 j.toNat) else none) = some items := hs
      split at hs
      · cases hs
        exact ⟨j, by rw [h1.int], by omega, by omega, q _ rng_good⟩
      · cases hs
    | _ => cases hs
def semL2 (f : D → D → Option (List D)) : List D → Option (List D)
  | [x, y] => f x y
  | _ => none
@[simp] theorem semL2_eq (f : D → D → Option (List D)) (x y : D) : semL2 f [x, y] = f x y := rfl
theorem semL2_of {f : D → D → Option (List D)} {ds : List D} {d : List D} (h : semL2 f ds = some d) : ∃ x y, ds = [x, y] ∧ f x y = some d := by
  match ds, h with
  | [x, y], h => exact ⟨x, y, rfl, h⟩
def rng2S : D → D → Option (List D)
  | .int i, .int j => if i.natAbs < 4611686018427387904 ∧ j.natAbs < 4611686018427387904 then some (rangeL i (j - i).toNat) else none
  | _, _ => none
def iRng2 : Ip where
  rcg := fun sc _ it => match it with
    | .Call (.Name x _) [a, b] [] _ => if (decide (x = ("range" : Str)) && glB sc x) = true then some [a, b] else none
    | _ => none
  sem := semL2 rng2S
@[simp] theorem iRng2_sem (x y : D) : iRng2.sem [x, y] = rng2S x y := rfl
theorem iRng2_ok {C : Cn} (hm : C.mg "range" = none) : iRng2.Ok C := by
  intro N sc k W X hX tg it es ts h1 h2 h3
  have hmX : X.mg "range" = none := by rw [hX.cn] at hm; exact hm
  obtain ⟨p, pos, a, b, rfl, rfl, g1⟩ : ∃ p pos a b, it = .Call (.Name "range" p) [a, b] [] pos ∧ es = [a, b] ∧ glB sc "range" = true := by
    unfold iRng2 at h1
    dsimp only at h1
    split at h1
    · split at h1
      · rename_i h0
        cases h1
        rw [Bool.and_eq_true, decide_eq_true_eq] at h0
        obtain ⟨rfl, g⟩ := h0
        exact ⟨_, _, _, _, rfl, rfl, g⟩
      · cases h1
    · cases h1
  have hg : Gl X "range" := glB_gl (by rw [← hX.sc]; exact g1)
  obtain ⟨s1, s2⟩ := noStar_cons h3
  obtain ⟨s3, _⟩ := noStar_cons s2
  match ts, h2 with
  | [ta, tb], h2 =>
    refine pi_range2G (r := rIp C iRng2) hg hmX (PEs.pa h2 h3) (by rw [star_no s1, star_no s3]; rfl) (star_no s3) fun vs H R => ?_
    rintro ⟨Z, ds, items, hz, ha, hs, q⟩
    obtain ⟨d, e, rfl, hs⟩ := semL2_of hs
    obtain ⟨v, w, rfl, h1, h2⟩ := ha.two
    have h1 : Vw C.K Z H d v := h1
    have h2 : Vw C.K Z H e w := h2
    cases d with
    | int i =>
      cases e with
      | int j =>
        have hs : (if i.natAbs < 4611686018427387904 ∧ j.natAbs < 4611686018427387904 then some (rangeL i (j - i).toNat) else none) = some items := hs
        split at hs
        · rename_i h0
          cases hs
          exact ⟨i, j, by rw [h1.int, h2.int], ⟨by omega, by omega, by omega, by omega⟩, q _ rng_good⟩
        · cases hs
      | _ => cases hs
    | _ => cases hs
/-! ### d.get(k), d.get(k, x) -/
def baseOk : Expr → Bool
  | .Call _ [] [] _ => false
  | _ => true
theorem base_ok {o : Expr} {m : Str} {env : PySem.Env} (h : baseOk o = true) : attributeBase o m env (eval o env) = eval o env := by
  cases o with
  | Call f al ks p =>
    cases al with
    | nil =>
      cases ks with
      | nil => cases h
      | cons _ _ => cases f <;> rfl
    | cons _ _ => cases f <;> rfl
  | _ => rfl
/-- o.m(e, ..), m a built-in type's method -/
def bmMt (m : Str) (n : Nat) (recv : D → Bool) (sem : D → List D → Option D) (nw : Bool := false) (esc : Nat → Bool := fun _ => false) : Mt where
  rcg := fun _ e => match e with
    | .Call (.Attribute o m' ap) (a :: es) [] cp => if (decide (m' = m) && decide (es.length + 1 = n) && decide (n < 30) && (ap.endLine == cp.line) && baseOk o) = true then some (o, a :: es) else none
    | _ => none
  recv := recv
  sem := sem
  nw := nw
  esc := esc
theorem bm_shape {m : Str} {n : Nat} {recv : D → Bool} {sem : D → List D → Option D} {nw : Bool} {esc : Nat → Bool} {sc : Scope} {e o : Expr} {es : List Expr} (h : (bmMt m n recv sem nw esc).rcg sc e = some (o, es)) :
    ∃ ap cp a er, e = .Call (.Attribute o m ap) (a :: er) [] cp ∧ es = a :: er ∧ er.length + 1 = n ∧ n < 30 ∧ (ap.endLine == cp.line) = true ∧ baseOk o = true := by
  unfold bmMt at h
  dsimp only at h
  split at h
  · split at h
    · rename_i h0
      cases h
      simp only [Bool.and_eq_true, decide_eq_true_eq] at h0
      obtain ⟨⟨⟨⟨rfl, h2⟩, h3⟩, h4⟩, h5⟩ := h0
      exact ⟨_, _, _, _, rfl, rfl, h2, h3, h4, h5⟩
    · cases h
  · cases h
def rMt (C : Cn) (M : Mt) (x : V) (vs : List V) (H : Hp) (Q : VK) : Prop := ∃ Z d ds r, (∀ a, Z a → H a ≠ none) ∧ Vw C.K Z H d x ∧ Args C.K Z H M.esc 0 ds vs ∧ M.sem d ds = some r ∧ ∀ v H3 Z3, PRes C.K M.nw Z H r v Z3 H3 → Q v H3
theorem bmMt_ok {C : Cn} {m : Str} {n : Nat} {recv : D → Bool} {sem : D → List D → Option D} {nw : Bool} {esc : Nat → Bool} {T id : String} (pa : PlainAttrs T) (slot : Slot T m id) (hty : typeOf (.builtin id) = pure (.type "method_descriptor"))
    (hm : ∀ {N : List Str} {sc : Scope} {k : Nat} {W : WX} {X : Cx}, XOk C N sc k W X → MtR X id (rMt C (bmMt m n recv sem nw esc)))
    (hA : ∀ {X : Cx} {Z : Addr → Prop} {d : D} {x : V} {H : Hp}, recv d = true → Vw C.K Z H d x → X.K = C.K → Tys X T x H) : (bmMt m n recv sem nw esc).Ok C where
  pe := by
    intro N sc k W X hX e o es t ts h1 ht h2 h3
    obtain ⟨ap, cp, a, er, rfl, rfl, g1, g2, g3, g4⟩ := bm_shape h1
    obtain ⟨s1, s2⟩ := noStar_cons h3
    have hK : X.K = C.K := by rw [hX.cn]; rfl
    exact pe_bmG (A := fun x H1 => ∃ Z d, (∀ a, Z a → H1 a ≠ none) ∧ Vw C.K Z H1 d x ∧ (bmMt m n recv sem nw esc).recv d = true) pa slot hty (hm hX) ht (h2.pa h3) (fun x H ⟨Z, d, _, h5, h6⟩ => hA h6 h5 hK) (base_ok g4) (few_ok h3 (by rw [List.length_cons]; omega)) g3 (star_no s1) (noStar_any s2)
  nc := by
    intro sc e o es h
    obtain ⟨ap, cp, a, er, rfl, rfl, _⟩ := bm_shape h
    rfl
def isDict' : D → Bool
  | .dk _ => true
  | .dt _ => true
  | _ => false
theorem tys_dict {C : Cn} {X : Cx} {Z : Addr → Prop} {d : D} {x : V} {H : Hp} (h : isDict' d = true) (hv : Vw C.K Z H d x) : Tys X "dict" x H := fun pins σ s v I r => by
  cases d with
  | dk kvs =>
    obtain ⟨a, ks, rfl, g, _⟩ := hv.dk
    obtain rfl : v = .ref a := r
    exact ⟨(isD_at I (.inl ⟨ks, g⟩)).1, (isD_at I (.inl ⟨ks, g⟩)).2.1⟩
  | dt kvs =>
    obtain ⟨a, ks, rfl, g, _⟩ := hv.dt
    obtain rfl : v = .ref a := r
    exact ⟨(isD_at I (.inr ⟨ks, g⟩)).1, (isD_at I (.inr ⟨ks, g⟩)).2.1⟩
  | _ => cases h
def getS : D → List D → Option D
  | o, [k, x] => (dictAt o k).map fun r => r.getD x
  | _, _ => none
/-- d.get(k, x) -/
def mGet : Mt := bmMt "get" 2 isDict' getS false (fun j => decide (j = 1))
@[simp] theorem mGet_sem (o k x : D) : mGet.sem o [k, x] = (dictAt o k).map fun r => r.getD x := rfl
@[simp] theorem mGet_recv (o : D) : mGet.recv o = isDict' o := rfl
theorem mGet_ok {C : Cn} : mGet.Ok C := bmMt_ok PySem.F.plainAttrs_dict PySem.F.slot_dict_get PySem.F.type_dict_get (fun {N sc k W X} hX => by
    intro pins s σ H x xs v us Q I rx rxs h
    obtain ⟨Z, d, ds, r, hz, hv, ha, hs, q⟩ := h
    match ds, hs, ha with
    | [kd, xd], hs, ha =>
      obtain ⟨kv, xv, rfl, h1, h2⟩ := ha.two
      have h1 : Vw C.K Z H kd kv := h1
      have h2 : Rp C.K Z H xd xv := h2
      have hs : (dictAt d kd).map (fun r => r.getD xd) = some r := hs
      cases e : dictAt d kd with
      | none => rw [e] at hs; cases hs
      | some rr =>
        rw [e] at hs
        cases hs
        obtain ⟨a, rfl, _, w, g, gg⟩ := dictAt_get e hv h1
        obtain rfl : v = Value.ref a := rx
        cases rxs with
        | cons r1 r2 =>
          cases r2 with
          | cons r2 r3 =>
            cases r3
            refine d_get2 (by have := hX.room.un; omega) I g r1 r2 fun w' s' I' rw' => ⟨w.getD xv, H, I', rw', q _ _ _ (PRes.same hz ?_)⟩
            rcases gg with ⟨rfl, rfl⟩ | ⟨d2, u2, rfl, rfl, ru⟩
            · exact h2
            · exact ru) fun h hv _ => tys_dict h hv
end G
end
section
set_option maxRecDepth 10000
/-! From a law's def to the law. -/
namespace G
open PySem L2
/-- no refusal is awaited: none comes -/
theorem FnOk.calm {P : Program} {w : World} {K : PySem.W.Frag} {mg : Str → Option Value} {base : Heap} {k : Nat} {f : Addr} {fd : FuncData} {ps : List Str} {sp : Sp} (F : FnOk P w K mg base (L2.CX P w) k f fd ps sp) :
    FnOk P w K mg base CX0 k f fd ps (fun vs H Q _ => sp vs H Q fun _ _ _ => False) where
  len := fun vs H Q E h => F.len vs H Q _ h
  run := fun A outer s H args us vs Q E hr e0 hb r h => by
    refine codeAny_mono (F.run A outer s H args us vs Q _ hr e0 hb r h) fun r s' hq => ?_
    cases r with
    | error e =>
      obtain ⟨_, _, _, _, _, _, _, _, _, _, _, _, z⟩ := hq
      exact z.elim
    | ok fl => cases fl <;> exact hq
theorem sp_law {C : Cn} {F : Fn} (hl : F.lend = [false]) (hn : F.nw = false) {n : Nat} (h : ∀ ns : List Int, ns.length ≤ n → ∃ o, F.sem [.scr ns] = .ret (.bl true) o) (H : Hp) (a : Addr) (ns : List Int) (hln : ns.length ≤ n) (hO : Only H) (hs : SqL C.K H a (ns.map V.int)) :
    spOf C F [.ref a] H (fun v _ => v = .bl true) fun _ _ _ => False := by
  obtain ⟨o, ho⟩ := h ns hln
  refine ⟨fun _ => False, [.scr ns], fun _ z => z.elim, ?_, ?_, ?_⟩
  · rw [hl]
    refine ⟨.scr ns, [], .ref a, [], rfl, rfl, ?_, rfl, rfl⟩
    rw [if_neg Bool.false_ne_true]
    refine ⟨a, rfl, ?_⟩
    rcases hs with hs | hs
    · rcases hs with hs | ⟨ob, hs⟩
      · rcases hO a with z | ⟨_, _, z⟩
        · rw [z] at hs; cases hs
        · rw [z] at hs; cases hs
      · exact .inl ⟨ob, hs⟩
    · exact .inr (.inr hs)
  · rw [hl]
    exact List.nodup_nil
  · rw [ho]
    intro v H1 Z1 _ kf
    unfold KF at kf
    rw [hn, if_neg Bool.false_ne_true] at kf
    exact kf
/-- what a law's text is asked -/
structure DefAt (C : Cn) (x : Str) (st : Stmt) : Prop where
  f : ∃ fd, FunD C.K x x (defArgs st) (defBody st) (defScope st) [] [] (He.ga C.K x) fd
  g : C.mg x = some (.ref (He.ga C.K x))
def datum (x : Str) (st : Stmt) : He.DefD := ⟨(x, none), x, x, defArgs st, defBody st, defScope st, [], []⟩
theorem DefAt.of {P : Program} {w : World} {K : PySem.W.Frag} {h base : Heap} {mg : Str → Option Value} (X : K.In h) (G : h.Ns mainGlobals mg) {fa : List He.Fa} {fn : List He.DefD} (c : He.SaysD fa fn K) {x : Str} {st : Stmt} (i j : Nat) (hi : fn[i]? = some (datum x st)) (hj : fa[j]? = some (.glo x)) :
    DefAt ⟨P, w, K, mg, base⟩ x st := by
  obtain ⟨fd, F⟩ := c.def_ i hi
  exact ⟨⟨fd, F⟩, He.glo_ok X G (c.fact j hj)⟩
theorem good_at {C : Cn} {x : Str} {st : Stmt} {ps : List Str} {fi : FI} {lend : List Bool} {cs : CSs} {k : Nat} (D : DefAt C x st) (hs : fi.sc = defScope st) (S : FnScope fi.N ps fi.sc)
    (hb : ∀ (kV doc pm : Value) (an : Option Addr) (cdv ct : Value) (us : List Value), us.length = ps.length → bindArgs (PySem.W.fnOf x x (defArgs st) (defBody st) (defScope st) .none kV doc pm an cdv ct) ⟨us, []⟩ = pure (ps.zip us))
    (hc : ckF fi ps lend cs (defBody st) = true) (ok : OkSs C k cs) : FnGood C (k + 1) (fnOf x fi lend cs) := by
  obtain ⟨fd, F⟩ := D.f
  have b := F.bindsN hb
  rw [← hs] at F
  exact fn_good F S D.g b hc ok
/-- the law's def, called -/
theorem law_F {P : Program} {w : World} {K : PySem.W.Frag} {h : Heap} {mg : Str → Option Value} {f : Addr} {fa : List He.Fa} {fn : List He.DefD} (X : K.In h) (G0 : h.Ns mainGlobals mg) (hmg : mg ("law" : Str) = some (.ref f)) (c : He.SaysD fa fn K) {i : Nat} {st : Stmt} {x : Str} {fi : FI} {cs : CSs} {k : Nat}
    (hi : fn[i]? = some (datum "law" st)) (hj : fa[i]? = some (.glo "law"))
    (hb : ∀ (kV doc pm : Value) (an : Option Addr) (cdv ct : Value) (us : List Value), us.length = [x].length → bindArgs (PySem.W.fnOf "law" "law" (defArgs st) (defBody st) (defScope st) .none kV doc pm an cdv ct) ⟨us, []⟩ = pure ([x].zip us))
    (hs : fi.sc = defScope st) (S : FnScope fi.N [x] fi.sc) (hc : ckF fi [x] [false] cs (defBody st) = true) (ok : ∀ base : Heap, OkSs ⟨P, w, K, mg, base⟩ k cs) (hn : fi.nw = false)
    (pure_law : ∀ ns : List Int, ns.length ≤ 63 → ∃ o, (G.fnOf "law" fi [false] cs).sem [.scr ns] = .ret (.bl true) o) :
    ∃ (K : PySem.W.Frag) (fd : FuncData) (sp : Sp), K.In h ∧ (∀ (s : Shared) (u : Value), BindsTo s fd ⟨[u], []⟩ [(x, u)]) ∧
        (∀ (H : Hp) (a : Addr) (ns : List Int), ns.length ≤ 63 → Only H → SqL K H a (ns.map V.int) → sp [.ref a] H (fun v _ => v = .bl true) fun _ _ _ => False) ∧
        ∀ base : Heap, K.In base → base.Ns mainGlobals mg → FnOk P w K mg base CX0 (k + 1) f fd [x] sp := by
  obtain ⟨fd, F⟩ := c.def_ i hi
  have e := hmg.symm.trans (He.glo_ok X G0 (c.fact i hj))
  cases e
  have b := FunD.bindsA (ps := [x]) F hb
  have F2 : FunD K "law" "law" (defArgs st) (defBody st) fi.sc [] [] (He.ga K "law") fd := by rw [hs]; exact F
  refine ⟨K, fd, fun vs H Q _ => spOf ⟨P, w, K, mg, h⟩ (G.fnOf "law" fi [false] cs) vs H Q fun _ _ _ => False, X, fun s u => b s [u] rfl, ?_, fun base _ _ => FnOk.calm (sp := spOf ⟨P, w, K, mg, base⟩ (G.fnOf "law" fi [false] cs)) (fn_ok (C := ⟨P, w, K, mg, base⟩) F2 S hc (ok base))⟩
  exact fun H a ns hl hO hS => sp_law (C := ⟨P, w, K, mg, h⟩) (F := G.fnOf "law" fi [false] cs) rfl hn pure_law H a ns hl hO hS
end G
end
section
set_option maxRecDepth 100000
/-! More strict things: slices, turned sequences, any, all, max, min, joined texts. -/
namespace G
open PySem L2 PySem.Spec
open PyProof.Rows hiding St
/-! ### any, all -/
def isBl : D → Option Bool
  | .bl b => some b
  | _ => none
def blsOf (ds : List D) : Option (List Bool) := ds.mapM isBl
theorem bls_of : ∀ {xs : List D} {bs : List Bool}, blsOf xs = some bs → xs = bs.map .bl
  | [], bs, h => by
    have h : some [] = some bs := h
    cases h; rfl
  | d :: r, bs, h => by
    have h : (isBl d).bind (fun b => (blsOf r).bind fun bs => some (b :: bs)) = some bs := by
      unfold blsOf at h ⊢
      rw [List.mapM_cons] at h
      exact h
    cases e1 : isBl d with
    | none => rw [e1] at h; cases h
    | some b =>
      rw [e1] at h
      cases e2 : blsOf r with
      | none => rw [e2] at h; cases h
      | some l =>
        rw [e2] at h
        cases h
        rw [bls_of e2]
        cases d with
        | bl c => cases e1; rfl
        | _ => cases e1
theorem bls_enc : ∀ bs : List Bool, blsOf (bs.map .bl) = some bs
  | [] => rfl
  | b :: r => by
    have ih := bls_enc r
    unfold blsOf at ih ⊢
    rw [List.map_cons, List.mapM_cons, ih]
    rfl
theorem RpL.bls {K : PySem.W.Frag} {Z : Addr → Prop} {H : Hp} : ∀ {bs : List Bool} {vs : List V}, RpL K Z H (bs.map .bl) vs → vs = bs.map V.bl
  | [], vs, h => h
  | b :: r, vs, h => by
    obtain ⟨v, l, rfl, h1, h2⟩ := h
    rw [RpL.bls h2]
    have h1 : v = .bl b := h1
    rw [h1]
    rfl
def anyS : D → Option D
  | .lst ds => (blsOf ds).map fun bs => .bl (bs.any id)
  | _ => none
def allS : D → Option D
  | .lst ds => (blsOf ds).map fun bs => .bl (bs.all id)
  | _ => none
def pAny : Pr := cbPr "any" (sem1 anyS)
def pAll : Pr := cbPr "all" (sem1 allS)
theorem bls_read {C : Cn} {Z : Addr → Prop} {H : Hp} {a d : D} {v : V} {f : List Bool → Bool} {g : D → Option D} (hg : ∀ ds, g (.lst ds) = (blsOf ds).map fun bs => .bl (f bs)) (hn : ∀ x, (∀ ds, x ≠ .lst ds) → g x = none) (h1 : Vw C.K Z H a v) (hs : g a = some d) : ∃ a1 bs, v = .ref a1 ∧ SqL C.K H a1 (bs.map V.bl) ∧ d = .bl (f bs) := by
  by_cases e : ∃ ds, a = .lst ds
  · obtain ⟨ds, rfl⟩ := e
    obtain ⟨a1, vs, rfl, g1, g2⟩ := h1.lst
    rw [hg] at hs
    cases e : blsOf ds with
    | none => rw [e] at hs; cases hs
    | some bs =>
      rw [e] at hs
      cases hs
      have := bls_of e
      subst this
      have := g2.bls
      subst this
      exact ⟨a1, bs, rfl, .of g1, rfl⟩
  · rw [hn a fun ds e2 => e ⟨ds, e2⟩] at hs
    cases hs
theorem pAny_ok {C : Cn} (hm : C.mg "any" = none) : pAny.Ok C := cbPr_ok PyProof.Rows.boot_any (.inl ⟨_, rfl⟩) hm fun {N sc k W X} hX => by
  have hK : X.K = C.K := by rw [hX.cn]; rfl
  refine CallR.weak (cr_any hX.calm) fun xs H Q => ?_
  rintro ⟨Z, ds, d, hz, ha, hs, q⟩
  obtain ⟨a, rfl, hs⟩ := sem1_of hs
  obtain ⟨v, rfl, h1⟩ := ha.one
  have h1 : Vw C.K Z H a v := h1
  rw [hK]
  obtain ⟨a1, bs, rfl, g1, rfl⟩ := bls_read (g := anyS) (f := fun bs => bs.any id) (fun _ => rfl) (fun x hx => by cases x <;> first | rfl | exact absurd rfl (hx _)) h1 hs
  exact ⟨a1, bs, rfl, g1, q _ _ _ (PRes.same hz rfl)⟩
theorem pAll_ok {C : Cn} (hm : C.mg "all" = none) : pAll.Ok C := cbPr_ok PyProof.Rows.boot_all (.inl ⟨_, rfl⟩) hm fun {N sc k W X} hX => by
  have hK : X.K = C.K := by rw [hX.cn]; rfl
  refine CallR.weak (cr_all hX.calm) fun xs H Q => ?_
  rintro ⟨Z, ds, d, hz, ha, hs, q⟩
  obtain ⟨a, rfl, hs⟩ := sem1_of hs
  obtain ⟨v, rfl, h1⟩ := ha.one
  have h1 : Vw C.K Z H a v := h1
  rw [hK]
  obtain ⟨a1, bs, rfl, g1, rfl⟩ := bls_read (g := allS) (f := fun bs => bs.all id) (fun _ => rfl) (fun x hx => by cases x <;> first | rfl | exact absurd rfl (hx _)) h1 hs
  exact ⟨a1, bs, rfl, g1, q _ _ _ (PRes.same hz rfl)⟩
/-! ### max, min of whole numbers -/
def maxL : List Int → Int
  | [] => 0
  | n :: r => r.foldl max n
def minL : List Int → Int
  | [] => 0
  | n :: r => r.foldl min n
theorem fold_max : ∀ (r : List Int) (n : Int), n ≤ r.foldl max n ∧ (∀ m ∈ r, m ≤ r.foldl max n) ∧ (r.foldl max n = n ∨ r.foldl max n ∈ r)
  | [], n => ⟨Int.le_refl _, fun _ h => (by cases h), .inl rfl⟩
  | m :: r, n => by
    obtain ⟨h1, h2, h3⟩ := fold_max r (max n m)
    rw [List.foldl_cons]
    refine ⟨by omega, fun k hk => ?_, ?_⟩
    · rcases List.mem_cons.mp hk with rfl | hk
      · omega
      · exact h2 k hk
    · rcases h3 with h3 | h3
      · rw [h3]
        by_cases h : n ≤ m
        · exact .inr (by rw [Int.max_eq_right h]; exact List.mem_cons_self)
        · exact .inl (Int.max_eq_left (by omega))
      · exact .inr (List.mem_cons_of_mem _ h3)
theorem fold_min : ∀ (r : List Int) (n : Int), r.foldl min n ≤ n ∧ (∀ m ∈ r, r.foldl min n ≤ m) ∧ (r.foldl min n = n ∨ r.foldl min n ∈ r)
  | [], n => ⟨Int.le_refl _, fun _ h => (by cases h), .inl rfl⟩
  | m :: r, n => by
    obtain ⟨h1, h2, h3⟩ := fold_min r (min n m)
    rw [List.foldl_cons]
    refine ⟨by omega, fun k hk => ?_, ?_⟩
    · rcases List.mem_cons.mp hk with rfl | hk
      · omega
      · exact h2 k hk
    · rcases h3 with h3 | h3
      · rw [h3]
        by_cases h : m ≤ n
        · exact .inr (by rw [Int.min_eq_right h]; exact List.mem_cons_self)
        · exact .inl (Int.min_eq_left (by omega))
      · exact .inr (List.mem_cons_of_mem _ h3)
theorem maxL_mem {ns : List Int} (h : ns ≠ []) : maxL ns ∈ ns := by
  cases ns with
  | nil => exact absurd rfl h
  | cons n r =>
    rcases (fold_max r n).2.2 with e | e
    · show r.foldl max n ∈ n :: r
      rw [e]; exact List.mem_cons_self
    · exact List.mem_cons_of_mem _ e
theorem le_maxL {ns : List Int} {m : Int} (h : m ∈ ns) : m ≤ maxL ns := by
  cases ns with
  | nil => cases h
  | cons n r =>
    rcases List.mem_cons.mp h with rfl | h
    · exact (fold_max r m).1
    · exact (fold_max r n).2.1 m h
theorem minL_mem {ns : List Int} (h : ns ≠ []) : minL ns ∈ ns := by
  cases ns with
  | nil => exact absurd rfl h
  | cons n r =>
    rcases (fold_min r n).2.2 with e | e
    · show r.foldl min n ∈ n :: r
      rw [e]; exact List.mem_cons_self
    · exact List.mem_cons_of_mem _ e
theorem minL_le {ns : List Int} {m : Int} (h : m ∈ ns) : minL ns ≤ m := by
  cases ns with
  | nil => cases h
  | cons n r =>
    rcases List.mem_cons.mp h with rfl | h
    · exact (fold_min r m).1
    · exact (fold_min r n).2.1 m h
def maxS : D → Option D
  | .lst ds => (intsOf ds).bind fun ns => if ns = [] then none else some (.int (maxL ns))
  | _ => none
def minS : D → Option D
  | .lst ds => (intsOf ds).bind fun ns => if ns = [] then none else some (.int (minL ns))
  | _ => none
def pMax : Pr := cbPr "max" (sem1 maxS)
def pMin : Pr := cbPr "min" (sem1 minS)
theorem ints_read {C : Cn} {Z : Addr → Prop} {H : Hp} {a d : D} {v : V} {f : List Int → Int} {g : D → Option D} (hg : ∀ ds, g (.lst ds) = (intsOf ds).bind fun ns => if ns = [] then none else some (.int (f ns))) (hn : ∀ x, (∀ ds, x ≠ .lst ds) → g x = none) (h1 : Vw C.K Z H a v) (hs : g a = some d) : ∃ a1 ns, v = .ref a1 ∧ SqL C.K H a1 (ns.map V.int) ∧ ns ≠ [] ∧ d = .int (f ns) := by
  by_cases e : ∃ ds, a = .lst ds
  · obtain ⟨ds, rfl⟩ := e
    obtain ⟨a1, vs, rfl, g1, g2⟩ := h1.lst
    rw [hg] at hs
    cases e : intsOf ds with
    | none => rw [e] at hs; cases hs
    | some ns =>
      rw [e] at hs
      have hs : (if ns = [] then none else some (D.int (f ns))) = some d := hs
      split at hs
      · cases hs
      · rename_i hne
        cases hs
        have := ints_of e
        subst this
        have := g2.ints
        subst this
        exact ⟨a1, ns, rfl, .of g1, hne, rfl⟩
  · rw [hn a fun ds e2 => e ⟨ds, e2⟩] at hs
    cases hs
theorem pMax_ok {C : Cn} (hm : C.mg "max" = none) : pMax.Ok C := cbPr_ok PyProof.Rows.boot_max (.inl ⟨_, rfl⟩) hm fun {N sc k W X} hX => by
  have hK : X.K = C.K := by rw [hX.cn]; rfl
  refine CallR.weak (cr_max hX.calm) fun xs H Q => ?_
  rintro ⟨Z, ds, d, hz, ha, hs, q⟩
  obtain ⟨a, rfl, hs⟩ := sem1_of hs
  obtain ⟨v, rfl, h1⟩ := ha.one
  have h1 : Vw C.K Z H a v := h1
  rw [hK]
  obtain ⟨a1, ns, rfl, g1, hne, rfl⟩ := ints_read (g := maxS) (f := maxL) (fun _ => rfl) (fun x hx => by cases x <;> first | rfl | exact absurd rfl (hx _)) h1 hs
  refine ⟨a1, ns, rfl, g1, List.length_pos_iff.mpr hne, fun m hm1 hm2 => ?_⟩
  have e : m = maxL ns := Int.le_antisymm (le_maxL hm1) (hm2 _ (maxL_mem hne))
  rw [e]
  exact q _ _ _ (PRes.same hz rfl)
theorem pMin_ok {C : Cn} (hm : C.mg "min" = none) : pMin.Ok C := cbPr_ok PyProof.Rows.boot_min (.inl ⟨_, rfl⟩) hm fun {N sc k W X} hX => by
  have hK : X.K = C.K := by rw [hX.cn]; rfl
  refine CallR.weak (cr_min hX.calm) fun xs H Q => ?_
  rintro ⟨Z, ds, d, hz, ha, hs, q⟩
  obtain ⟨a, rfl, hs⟩ := sem1_of hs
  obtain ⟨v, rfl, h1⟩ := ha.one
  have h1 : Vw C.K Z H a v := h1
  rw [hK]
  obtain ⟨a1, ns, rfl, g1, hne, rfl⟩ := ints_read (g := minS) (f := minL) (fun _ => rfl) (fun x hx => by cases x <;> first | rfl | exact absurd rfl (hx _)) h1 hs
  refine ⟨a1, ns, rfl, g1, List.length_pos_iff.mpr hne, fun m hm1 hm2 => ?_⟩
  have e : m = minL ns := Int.le_antisymm (hm2 _ (minL_mem hne)) (minL_le hm1)
  rw [e]
  exact q _ _ _ (PRes.same hz rfl)
/-! ### slices -/
/-- a part of a slice as a value -/
inductive VPart : Option V → Option Int → Prop
  | no : VPart none none
  | int (i : Int) : VPart (some (.int i)) (some i)
def VRel (o : Option V) (u : Value) : Prop := match o with
  | none => u = .none
  | some x => RelV x u
structure PV (X : Cx) (e : Option Expr) (t : St → Hp → (Option V → Hp → Prop) → Prop) : Prop where
  run : ∀ (pins : List (Addr × Obj)) (s : Shared) (σ : St) (H : Hp) (Q : Option V → Hp → Prop), Inv X pins σ H s → t σ H Q →
    wpAny (model X.prog X.w) X.A (evalPart e X.env) (fun u s' => ∃ o H', Inv X pins σ H' s' ∧ VRel o u ∧ Q o H') X.xe s
theorem pv_none {X : Cx} : PV X none (fun _ H Q => Q none H) := by
  refine ⟨fun pins s σ H Q I h => ?_⟩
  rw [evalPart_none]
  exact wpAny_pure ⟨none, H, I, rfl, h⟩
theorem pv_some {X : Cx} {e : Expr} {te : TE} (h : PE X e te) : PV X (some e) (fun σ H Q => te σ H fun x H1 => Q (some x) H1) := by
  refine ⟨fun pins s σ H Q I hw => ?_⟩
  rw [evalPart_some]
  refine thn (h.run pins s σ H _ I hw) fun u s1 ⟨x, H1, I1, r1, q1⟩ => ?_
  exact ⟨some x, H1, I1, r1, q1⟩
theorem vpart_is {o : Option V} {i : Option Int} {u : Value} (h : VPart o i) (r : VRel o u) : IsPart u i := by
  cases h with
  | no =>
    have r : u = .none := r
    rw [r]; exact .none
  | int i =>
    have r : RelV (.int i) u := r
    obtain ⟨t, rfl⟩ := r
    exact .int i t
theorem pe_sliceG {X : Cx} {e : Expr} {te : TE} {lo hi : Option Expr} {tl th : St → Hp → (Option V → Hp → Prop) → Prop} {pos p2 : Pos} {r : V → Option Int → Option Int → Hp → VK → Prop} {rr : V → Option V → Option V → Hp → VK → Prop} (hr : SlR X r)
    (w : ∀ x y z H Q, rr x y z H Q → ∃ l u, VPart y l ∧ VPart z u ∧ r x l u H Q) (he : PE X e te) (hl : PV X lo tl) (hu : PV X hi th) :
    PE X (.Subscript e (.Slice lo hi none p2) pos) (fun σ H Q => te σ H fun x H1 => tl σ H1 fun y H2 => th σ H2 fun z H3 => rr x y z H3 Q) := by
  refine ⟨fun pins s σ H Q I h => ?_⟩
  refine Subscript_ (thn (he.run pins s σ H _ I h) fun v s1 ⟨x, H1, I1, r1, q1⟩ => ?_)
  refine wpAny_Slice (thn (hl.run pins s1 σ H1 _ I1 q1) fun vl s2 ⟨y, H2, I2, pl, q2⟩ => thn (hu.run pins s2 σ H2 _ I2 q2) fun vu s3 ⟨z, H3, I3, pu, q3⟩ => ?_)
  obtain ⟨l, u, pl', pu', q3⟩ := w _ _ _ _ _ q3
  have pl := vpart_is pl' pl
  have pu := vpart_is pu' pu
  rw [evalPart_none]
  refine wpAny_pure ?_
  have I4 : Inv X pins σ H3 { s3 with heap := s3.heap.push { cls := .type "slice", data := .fields #[vl, vu, .none] } } := I3.kept (t' := s3.toks) fun b ob q => Heap.get?_push_of_some _ q
  obtain ⟨T, id, hT, ht, hg⟩ := hr pins { s3 with heap := s3.heap.push { cls := .type "slice", data := .fields #[vl, vu, .none] } } σ H3 x v vl vu l u s3.heap.objs.size Q I4 r1 (Heap.IsSliceOf.new ..) pl pu q3
  show wpAny (model X.prog X.w) X.A (subscriptTail e (.Slice lo hi none p2) v (.ref s3.heap.objs.size)) (EP X pins σ Q) X.xe { s3 with heap := s3.heap.push { cls := .type "slice", data := .fields #[vl, vu, .none] } }
  exact tail_any (ops := [.ref s3.heap.objs.size, v]) ht hT hg (by with_unfolding_all rfl)
def cutD (xs : List D) (lo hi : Option Int) : List D := (xs.drop (HT.sIx xs.length 0 lo)).take (HT.sIx xs.length xs.length hi - HT.sIx xs.length 0 lo)
theorem RpL.cut {K : PySem.W.Frag} {Z : Addr → Prop} {H : Hp} {ds : List D} {vs : List V} (h : RpL K Z H ds vs) (lo hi : Option Int) : RpL K Z H (cutD ds lo hi) (cutV vs lo hi) := by
  unfold cutD cutV
  rw [h.len]
  exact (h.drop _).take _
def slS (nw : Bool) (x : D) (lo hi : Option Int) : Option D :=
  match x with
  | .lst xs => some (.lst (cutD xs lo hi))
  | .tup xs => if nw = true then none else some (.tup (cutD xs lo hi))
  | .str z => if nw = true then none else if z.length ≤ sizeLine then some (.str (cutS z lo hi)) else none
  | _ => none
def slSem (nw l h : Bool) (ds : List D) : Option D :=
  match l, h, ds with
  | true, true, [x, .int i, .int j] => slS nw x (some i) (some j)
  | true, false, [x, .int i] => slS nw x (some i) none
  | false, true, [x, .int j] => slS nw x none (some j)
  | false, false, [x] => slS nw x none none
  | _, _, _ => none
def slRcg (l h : Bool) (e : Expr) : Option (List Expr) :=
  match l, h, e with
  | true, true, .Subscript a (.Slice (some b) (some c) none _) _ => some [a, b, c]
  | true, false, .Subscript a (.Slice (some b) none none _) _ => some [a, b]
  | false, true, .Subscript a (.Slice none (some c) none _) _ => some [a, c]
  | false, false, .Subscript a (.Slice none none none _) _ => some [a]
  | _, _, _ => none
def pSl (l h : Bool) (nw : Bool := false) : Pr where
  rcg := fun _ e => slRcg l h e
  sem := slSem nw l h
  nw := nw
def rSlAll (K : PySem.W.Frag) : V → Option Int → Option Int → Hp → VK → Prop := fun x lo hi H Q => (rSlL K x lo hi H Q ∨ rSlX2 K x lo hi H Q) ∨ rSlS x lo hi H Q
theorem sl_all {X : Cx} : SlR X (rSlAll X.K) := (sl_list.or sl_tupX).or sl_str
theorem cut_whole {α : Type} (xs : List α) (lo hi : Option Int) (h : HT.sIx xs.length 0 lo = 0 ∧ HT.sIx xs.length xs.length hi = xs.length) : (xs.drop (HT.sIx xs.length 0 lo)).take (HT.sIx xs.length xs.length hi - HT.sIx xs.length 0 lo) = xs := by
  rw [h.1, h.2, List.drop_zero, Nat.sub_zero, List.take_length]
theorem sl_read {C : Cn} {nw : Bool} {Z : Addr → Prop} {x d : D} {v : V} {lo hi : Option Int} {H : Hp} {Q : VK} (hz : ∀ a, Z a → H a ≠ none) (h1 : Vw C.K Z H x v) (hs : slS nw x lo hi = some d) (q : ∀ v H2 Z2, PRes C.K nw Z H d v Z2 H2 → Q v H2) : rSlAll C.K v lo hi H Q := by
  cases x with
  | lst xs =>
    have hs : some (D.lst (cutD xs lo hi)) = some d := hs
    cases hs
    obtain ⟨a, vs, rfl, g1, g2⟩ := h1.lst
    refine .inl (.inl ⟨a, vs, rfl, .of g1, fun p np => ?_⟩)
    obtain ⟨Z2, hp⟩ := PRes.newL (nw := nw) hz np (g2.cut lo hi)
    exact q _ _ _ hp
  | tup xs =>
    cases nw with
    | true => cases hs
    | false =>
      have hs : some (D.tup (cutD xs lo hi)) = some d := hs
      cases hs
      obtain ⟨a, vs, e, ⟨o, ho, ho2⟩, g2⟩ := h1.tupX
      subst e
      refine .inl (.inr ⟨a, vs, rfl, .inl (.inr ⟨o, ho⟩), fun hw => ?_, fun _ p o np hd => ?_⟩)
      · have hw' : cutD xs lo hi = xs := cut_whole xs lo hi (by rw [g2.len]; exact hw)
        rw [hw'] at q
        exact q _ _ _ (PRes.same hz ⟨a, vs, rfl, ⟨o, ho, ho2⟩, g2⟩)
      · exact q _ _ _ (PRes.newT hz np hd (g2.cut lo hi))
  | str z =>
    cases nw with
    | true => cases hs
    | false =>
      have hs : (if z.length ≤ sizeLine then some (D.str (cutS z lo hi)) else none) = some d := hs
      split at hs
      · rename_i hl
        cases hs
        have hv := h1.str
        subst hv
        exact .inr ⟨z, rfl, hl, q _ _ _ (PRes.same hz rfl)⟩
      · cases hs
  | _ => cases hs
theorem slSem_read {C : Cn} {l h nw : Bool} {x : V} {y z : Option V} {H : Hp} {Q : VK} (hy : y.isSome = l) (hzz : z.isSome = h) (hr : rV C (pSl l h nw) (x :: (y.toList ++ z.toList)) H Q) : ∃ lo hi, VPart y lo ∧ VPart z hi ∧ rSlAll C.K x lo hi H Q := by
  obtain ⟨Z, ds, d, hz, ha, hs, q⟩ := hr
  have hs : slSem nw l h ds = some d := hs
  match y, z, l, h, hy, hzz, ds, hs with
  | some y, some z, true, true, _, _, [a, .int i, .int j], hs =>
    obtain ⟨v1, v2, v3, e, h1, h2, h3⟩ := ha.three
    cases e
    have h1 : Vw C.K Z H a x := h1
    have h2 : Vw C.K Z H (.int i) y := h2
    have h3 : Vw C.K Z H (.int j) z := h3
    rw [h2.int, h3.int]
    exact ⟨_, _, .int i, .int j, sl_read hz h1 hs q⟩
  | some y, none, true, false, _, _, [a, .int i], hs =>
    obtain ⟨v1, v2, e, h1, h2⟩ := ha.two
    cases e
    have h1 : Vw C.K Z H a x := h1
    have h2 : Vw C.K Z H (.int i) y := h2
    rw [h2.int]
    exact ⟨_, _, .int i, .no, sl_read hz h1 hs q⟩
  | none, some z, false, true, _, _, [a, .int j], hs =>
    obtain ⟨v1, v2, e, h1, h2⟩ := ha.two
    cases e
    have h1 : Vw C.K Z H a x := h1
    have h2 : Vw C.K Z H (.int j) z := h2
    rw [h2.int]
    exact ⟨_, _, .no, .int j, sl_read hz h1 hs q⟩
  | none, none, false, false, _, _, [a], hs =>
    obtain ⟨v1, e, h1⟩ := ha.one
    cases e
    have h1 : Vw C.K Z H a x := h1
    exact ⟨_, _, .no, .no, sl_read hz h1 hs q⟩
theorem pSl_ok {C : Cn} {l h nw : Bool} : (pSl l h nw).Ok C where
  pe := by
    intro N sc n W X hX e es ts h1 h2 h3
    have hK : X.K = C.K := by rw [hX.cn]; rfl
    have hr : SlR X (rSlAll C.K) := by rw [← hK]; exact sl_all
    have h1 : slRcg l h e = some es := h1
    unfold slRcg at h1
    split at h1
    · cases h1
      match ts, h2 with
      | [ta, tb, tc], ⟨ha, hb, hc, _⟩ =>
        exact pe_sliceG (rr := fun x y z H Q => match y, z with
          | some y, some z => rV C (pSl true true nw) [x, y, z] H Q
          | _, _ => False) hr (fun x y z H Q w => by
            cases y with
            | none => exact w.elim
            | some y => cases z with
              | none => exact w.elim
              | some z => exact slSem_read (y := some y) (z := some z) rfl rfl w) ha (pv_some hb) (pv_some hc)
    · cases h1
      match ts, h2 with
      | [ta, tb], ⟨ha, hb, _⟩ =>
        exact pe_sliceG (rr := fun x y z H Q => match y, z with
          | some y, none => rV C (pSl true false nw) [x, y] H Q
          | _, _ => False) hr (fun x y z H Q w => by
            cases y with
            | none => exact w.elim
            | some y => cases z with
              | some z => exact w.elim
              | none => exact slSem_read (y := some y) (z := none) rfl rfl w) ha (pv_some hb) pv_none
    · cases h1
      match ts, h2 with
      | [ta, tb], ⟨ha, hb, _⟩ =>
        exact pe_sliceG (rr := fun x y z H Q => match y, z with
          | none, some y => rV C (pSl false true nw) [x, y] H Q
          | _, _ => False) hr (fun x y z H Q w => by
            cases y with
            | some y => exact w.elim
            | none => cases z with
              | none => exact w.elim
              | some z => exact slSem_read (y := none) (z := some z) rfl rfl w) ha pv_none (pv_some hb)
    · cases h1
      match ts, h2 with
      | [ta], ⟨ha, _⟩ =>
        exact pe_sliceG (rr := fun x y z H Q => match y, z with
          | none, none => rV C (pSl false false nw) [x] H Q
          | _, _ => False) hr (fun x y z H Q w => by
            cases y with
            | some y => exact w.elim
            | none => cases z with
              | some z => exact w.elim
              | none => exact slSem_read (y := none) (z := none) rfl rfl w) ha pv_none pv_none
    · cases h1
  nc := by
    intro sc e es h
    have h : slRcg _ _ e = some es := h
    unfold slRcg at h
    split at h <;> first | rfl | cases h
  bl := fun h => by cases h
  pt := fun h => by cases h
/-! ### turned about -/
theorem adjust_rev (n : Nat) : Builtin.Slice.sliceAdjust none none (-1) (n : Int) = ((n : Int) - 1, -1) := by
  unfold Builtin.Slice.sliceAdjust
  simp
theorem places_rev (n : Nat) : Builtin.Slice.slicePlaces ((n : Int) - 1) (-1) (-1) = n := by
  unfold Builtin.Slice.slicePlaces
  have h1 : ¬ ((-1 : Int) > 0) := by omega
  simp only [h1, if_false]
  have e : (- -1 : Int) = 1 := by decide
  rw [e]
  simp only [Int.ediv_one]
  split <;> omega
section
variable {prog : Program} {w : World} {A : Around} {E : Value → Shared → Prop} {s : Shared}
theorem slice_rev {sl : Addr} {t : Tok} {n : Nat} {Q : Int × Int × Nat → Shared → Prop} (hs : s.heap.IsSliceOf sl .none .none (.int (-1) t))
    (h : Q ((n : Int) - 1, -1, n) s) : wpAny (model prog w) A (Builtin.Slice.sliceApplied (.ref sl) (pure (n : Int))) Q E s := by
  obtain ⟨os, hos, hcs, hds⟩ := id hs
  unfold Builtin.Slice.sliceApplied Builtin.Slice.sliceFields
  refine wpAny_bind (wpAny_bind (wpAny_field hos hds (x := .none) rfl (wpAny_bind (wpAny_field hos hds (x := .none) rfl (wpAny_bind (wpAny_field hos hds (x := .int (-1) t) rfl (wpAny_pure ?_)))))))
  refine wpAny_bind (slicePart_int ?_)
  show wpAny _ _ (if ((-1 : Int) == 0) = true then _ else _) _ _ s
  rw [if_neg (by decide)]
  refine wpAny_bind (slicePart_none (wpAny_bind (slicePart_none (wpAny_bind (wpAny_pure ?_)))))
  show wpAny _ _ (match Builtin.Slice.sliceAdjust none none (-1) (n : Int) with | (lo, hi) => pure (lo, (-1 : Int), Builtin.Slice.slicePlaces lo hi (-1))) _ _ s
  rw [adjust_rev n]
  show wpAny _ _ (pure ((n : Int) - 1, (-1 : Int), Builtin.Slice.slicePlaces ((n : Int) - 1) (-1) (-1))) _ _ s
  rw [places_rev]
  exact wpAny_pure h
theorem pick_rev (xs : Array Value) : ((List.range xs.size).filterMap fun (m : Nat) => xs[((xs.size : Int) - 1 + (m : Int) * (-1)).toNat]?).toArray = xs.toList.reverse.toArray := by
  have e : ((List.range xs.size).filterMap fun (m : Nat) => xs[((xs.size : Int) - 1 + (m : Int) * (-1)).toNat]?) = ((List.range xs.size).map fun k => xs.size - 1 - k).filterMap (xs[·]?) := by
    rw [List.filterMap_map]
    have cong : ∀ (l : List Nat) (f g : Nat → Option Value), (∀ m ∈ l, f m = g m) → l.filterMap f = l.filterMap g := by
      intro l f g
      induction l with
      | nil => intro _; rfl
      | cons a r ih =>
        intro h
        rw [List.filterMap_cons, List.filterMap_cons, h a List.mem_cons_self, ih fun m hm => h m (List.mem_cons_of_mem _ hm)]
    refine cong _ _ _ fun m hm => ?_
    have := List.mem_range.mp hm
    have e : ((xs.size : Int) - 1 + (m : Int) * (-1)).toNat = xs.size - 1 - m := by omega
    show xs[((xs.size : Int) - 1 + (m : Int) * (-1)).toNat]? = xs[xs.size - 1 - m]?
    rw [e]
  rw [e, PySem.W.krv_range, List.filterMap_reverse, PySem.W.krv_all]
theorem getItem_tuple_rev {t sl : Addr} {items : Array Value} {u : Tok} {Q : Value → Shared → Prop} (ht : IsTup s.heap t items) (hs : s.heap.IsSliceOf sl .none .none (.int (-1) u))
    (h : Q (.ref s.heap.objs.size) { s with heap := s.heap.push { cls := .type "tuple", data := .seq items.toList.reverse.toArray } })
    (hsz : items.size ≤ sizeLine) : wpAny (model prog w) A (getItem (.ref t) (.ref sl)) Q E s := by
  have htake : sizeOk (.seq items.toList.reverse.toArray) := by
    show items.toList.reverse.toArray.size ≤ sizeLine
    rw [List.size_toArray, List.length_reverse, Array.length_toList]
    omega
  obtain ⟨os, hos, hcs, hds⟩ := id hs
  have hTs : s.TypeIs (.ref sl) "slice" := ⟨os, hos, hcs⟩
  unfold getItem
  try with_reducible refine wpAny_holding ?_
  first | refine wpAny_bind (wpAny_pure ?_) | skip
  refine wpAny_bind (wpAny_sequenceKey ht.typeIs (by decide) ?_)
  refine wpAny_bind (wpAny_callSpecial?_slot (name := Str.ofString "__getitem__") ht.typeIs PyProof.Rows.slot_tuple_getitem
    (wpAny_call_entry PyProof.Rows.slot_tuple_getitem ht.typeIs entry_tuple_getitem ?_ (args_tuple_getitem _ _)))
  show wpAny _ _ (Builtin.Tuple.tupleItemsOf (.ref t) >>= _) _ _ s
  refine wpAny_bind (tupleItemsOf_ ht ?_)
  refine wpAny_bind (wpAny_typeOf hTs ?_)
  rw [if_pos (by decide)]
  refine wpAny_bind (slice_rev hs ?_)
  have hno : ¬ ((((items.size : Int) - 1) == 0 && (-1 : Int) == 1 && items.size == items.size) = true) := by
    intro q
    rw [Bool.and_eq_true, Bool.and_eq_true] at q
    have q1 : (-1 : Int) = 1 := eq_of_beq q.1.2
    omega
  show wpAny _ _ (if (((items.size : Int) - 1) == 0 && (-1 : Int) == 1 && items.size == items.size) = true then _ else _) _ _ s
  rw [if_neg hno, pick_rev]
  first
    | exact wpAny_bind (m := Builtin.Tuple.tupleExact _) (wpAny_newObj_type (wpAny_pure ⟨_, rfl, wpAny_pure h⟩) htake)
    | exact wpAny_bind (m := Builtin.Tuple.tupleExact _) (wpAny_newObj_type (wpAny_bind (wpAny_pure (wpAny_pure ⟨_, rfl, wpAny_pure h⟩))) htake)
    | exact wpAny_bind (wpAny_bind (m := Builtin.Tuple.tupleExact _) (wpAny_newObj_type (wpAny_pure (wpAny_pure ⟨_, rfl, wpAny_pure h⟩)) htake))
    | exact wpAny_bind (wpAny_bind (m := Builtin.Tuple.tupleExact _) (wpAny_newObj_type (wpAny_pure ⟨_, rfl, wpAny_pure h⟩) htake))
end
/-- xs[::-1], a list or a tuple -/
def rRev (K : PySem.W.Frag) (x : V) (H : Hp) (Q : VK) : Prop := (∃ a xs, x = .ref a ∧ SqL K H a xs ∧ ∀ p, H p = none → Q (.ref p) (upd H p (.lst xs.reverse))) ∨ ∃ a xs, x = .ref a ∧ SqT K H a xs ∧ newX H Q xs.reverse
theorem pe_rev {X : Cx} {e : Expr} {te : TE} {rr : V → Hp → VK → Prop} {k : Nat} {p1 p2 p3 pos : Pos} (w : ∀ x H Q, rr x H Q → rRev X.K x H Q) (he : PE X e te) : PE X (.Subscript e (.Slice none none (some (.UnaryOp .USub (.Constant (.int 1) k p1) p2)) p3) pos) (fun σ H Q => te σ H fun x H1 => rr x H1 Q) := by
  refine ⟨fun pins s σ H Q I h => ?_⟩
  refine Subscript_ (thn (he.run pins s σ H _ I h) fun v s1 ⟨x, H1, I1, r1, q1⟩ => ?_)
  have hst : PO X (some (.UnaryOp .USub (.Constant (.int 1) k p1) p2)) (tPart (tUn (rU fun i => .int (-i)) (tC (.int 1)))) := po_some (pe_un un_neg pe_int)
  refine wpAny_Slice (thn (po_none.run pins s1 σ H1 (fun o H2 => o = none ∧ H2 = H1) I1 ⟨rfl, rfl⟩) fun vl s2 ⟨l, H2, I2, pl, el, e2⟩ => ?_)
  subst el e2
  refine thn (po_none.run pins s2 σ H2 (fun o H3 => o = none ∧ H3 = H2) I2 ⟨rfl, rfl⟩) fun vu s3 ⟨u, H3, I3, pu, eu, e3⟩ => ?_
  subst eu e3
  refine thn (hst.run pins s3 σ H3 (fun o H4 => o = some (-1) ∧ H4 = H3) I3 ⟨1, rfl, -1, rfl, rfl, rfl⟩) fun vs s4 ⟨o, H4, I4, ps, eo, e4⟩ => ?_
  subst eo e4
  have I5 : Inv X pins σ H4 { s4 with heap := s4.heap.push { cls := .type "slice", data := .fields #[vl, vu, vs] } } := I4.kept (t' := s4.toks) fun b ob q => Heap.get?_push_of_some _ q
  show wpAny (model X.prog X.w) X.A (subscriptTail e (.Slice none none (some (.UnaryOp .USub (.Constant (.int 1) k p1) p2)) p3) v (.ref s4.heap.objs.size)) (EP X pins σ Q) X.xe { s4 with heap := s4.heap.push { cls := .type "slice", data := .fields #[vl, vu, vs] } }
  rcases w _ _ _ q1 with ⟨a, xs, rfl, hx, q⟩ | ⟨a, xs, rfl, hx, q⟩
  · cases r1
    obtain ⟨its, r, ht, hz⟩ := I5.list hx
    have hlen := r.length
    refine tail_any (ops := [.ref a, .ref s4.heap.objs.size]) ht.isList.typeIs (PySem.slot_list_getitem.lookup) ?_ (by with_unfolding_all rfl)
    refine wpAny_getItem_list_slice ht.isList (Heap.IsSliceOf.new _ vl vu vs) pl pu ps (by decide) ?_ (by rw [List.size_toArray]; omega)
    rw [PySem.W.krv_pick]
    refine ⟨.ref _, _, I5.laid (t' := s4.toks) (o := .lst xs.reverse) (fun b ob q => Heap.get?_push_of_some _ q) (Nat.le_refl _) ?_, rfl, q _ (I5.hok.fresh (Nat.le_refl _))⟩
    exact ⟨by rw [List.length_reverse]; exact hz, _, 0, r.reverse, Heap.get?_push_size _ rfl⟩
  · cases r1
    obtain ⟨its, r, ht, hz⟩ := I5.tuple hx
    have hlen := r.length
    cases pl
    cases pu
    cases ps
    refine tail_any (ops := [.ref a, .ref s4.heap.objs.size]) ht.typeIs (PyProof.Rows.slot_tuple_getitem.lookup) ?_ (by with_unfolding_all rfl)
    refine getItem_tuple_rev ht (Heap.IsSliceOf.new _ _ _ _) ?_ (by rw [List.size_toArray]; omega)
    exact lay_tup (t' := s4.toks) I5 r.reverse (by rw [List.length_reverse]; exact hz) q
def revS (nw : Bool) : D → Option D
  | .lst xs => some (.lst xs.reverse)
  | .tup xs => if nw = true then none else some (.tup xs.reverse)
  | _ => none
def revRcg : Expr → Option (List Expr)
  | .Subscript a (.Slice none none (some (.UnaryOp .USub (.Constant (.int 1) _ _) _)) _) _ => some [a]
  | _ => none
def pRev (nw : Bool := false) : Pr where
  rcg := fun _ e => revRcg e
  sem := sem1 (revS nw)
  nw := nw
theorem pRev_ok {C : Cn} {nw : Bool} : (pRev nw).Ok C where
  pe := by
    intro N sc n W X hX e es ts h1 h2 h3
    have hK : X.K = C.K := by rw [hX.cn]; rfl
    have h1 : revRcg e = some es := h1
    unfold revRcg at h1
    split at h1
    · cases h1
      match ts, h2 with
      | [ta], ⟨ha, _⟩ =>
        refine pe_rev (rr := fun x H Q => rV C (pRev nw) [x] H Q) (fun x H Q => ?_) ha
        rw [hK]
        rintro ⟨Z, ds, d, hz, ha, hs, q⟩
        obtain ⟨a, rfl, hs⟩ := sem1_of hs
        obtain ⟨v, e, h1⟩ := ha.one
        cases e
        have h1 : Vw C.K Z H a x := h1
        cases a with
        | lst xs =>
          have hs : some (D.lst xs.reverse) = some d := hs
          cases hs
          obtain ⟨a, vs, rfl, g1, g2⟩ := h1.lst
          refine .inl ⟨a, vs, rfl, .of g1, fun p np => ?_⟩
          obtain ⟨Z2, hp⟩ := PRes.newL (nw := nw) hz np g2.reverse
          exact q _ _ _ hp
        | tup xs =>
          cases nw with
          | true => cases hs
          | false =>
            have hs : some (D.tup xs.reverse) = some d := hs
            cases hs
            obtain ⟨a, vs, rfl, ⟨o, ho, ho2⟩, g2⟩ := h1.tupX
            exact .inr ⟨a, vs, rfl, .inl (.inr ⟨o, ho⟩), fun p o np hd => q _ _ _ (PRes.newT hz np hd g2.reverse)⟩
        | _ => cases hs
    · cases h1
  nc := by
    intro sc e es h
    have h : revRcg e = some es := h
    unfold revRcg at h
    split at h <;> first | rfl | cases h
  bl := fun h => by cases h
  pt := fun h => by cases h
end G
end
section
set_option maxRecDepth 100000
/-! Walks over enumerate and zip, of lists and of tuples. -/
namespace G
open PySem L2 PySem.Spec
open PyProof.Rows hiding St
open PySem.W
section
variable {prog : Program} {w : World} {A : Around} {E : Value → Shared → Prop} {s : Shared}
set_option maxHeartbeats 1000000 in
theorem meets_enumB {v : Value} {o : Obj} {H : Heap → Prop} (B : Begins v o H) :
    Meets (Builtin.«enumerate.__new__» ⟨[.type "enumerate", v], []⟩) (fun _ R s => H s.heap ∧
      R (.ok (.ret (.ref (s.heap.push o).objs.size))) { s with heap := (s.heap.push o).push { cls := .type "enumerate", data := .fields #[.none, .bool false, .ref s.heap.objs.size, rawInt 0, .none, .none] } }) :=
  .of_wp fun prog w A R s h => by
    obtain ⟨hp, g, d, tk, os⟩ := s; obtain ⟨h1, h⟩ := h
    have hsub := sub_enumerate
    have q1 : ∀ {A' : Around} {E : Value → Shared → Prop} {Q : Value → Shared → Prop}, Q (.ref hp.objs.size) ⟨hp.push o, g, d, tk, os⟩ → wpAny (model prog w) A' (pyIter v) Q E ⟨hp, g, d, tk, os⟩ :=
      fun q => B.iter prog w _ _ ⟨hp, g, d, tk, os⟩ _ h1 q
    wp_walk using q1
    refine wpAny_stack_any fun st => wpAny_pure ?_
    split
    · rename_i c _ _ _ _ _
      cases (c == Value.type "enumerate")
      · wp_walk using q1
        exact ⟨_, rfl, h⟩
      · wp_walk using q1
        exact ⟨_, rfl, h⟩
    · wp_walk using q1
      exact ⟨_, rfl, h⟩
theorem enum_beginsB {v : Value} {o : Obj} {H : Heap → Prop} {Q : Value → Shared → Prop} (B : Begins v o H) (h1 : H s.heap)
    (h : ∀ h', IsEnum h' (s.heap.objs.size + 1) s.heap.objs.size 0 .none → h'.get? s.heap.objs.size = some o → h'.objs.size = s.heap.objs.size + 2 →
      (∀ b o, s.heap.get? b = some o → h'.get? b = some o) → Q (.ref (s.heap.objs.size + 1)) { s with heap := h' }) :
    wpAny (model prog w) A (call (.type "enumerate") [v]) Q E s := by
  refine callType_new F.called_enumerate (by decide) (F.typeCall_enumerate_1 _) (F.newCall_enumerate_1 _) (fun obj => F.args_object_init_2 obj _) F.entry_enumerate_new
    (meets_enumB B) ⟨h1, ?_⟩
  have hz : (s.heap.push o).objs.size = s.heap.objs.size + 1 := Heap.size_push ..
  show _ ∧ _
  rw [hz]
  have he : IsEnum ((s.heap.push o).push { cls := .type "enumerate", data := .fields #[.none, .bool false, .ref s.heap.objs.size, rawInt 0, .none, .none] }) (s.heap.objs.size + 1) s.heap.objs.size 0 .none := by
    have := Heap.get?_push_size (s.heap.push o) (o := { cls := .type "enumerate", data := .fields #[.none, .bool false, .ref s.heap.objs.size, rawInt 0, .none, .none] }) rfl
    rw [hz] at this; exact this
  refine ⟨⟨_, he, rfl⟩, h _ he (Heap.get?_push_of_some _ (Heap.get?_push_size _ B.free)) (by rw [Heap.size_push, hz]) fun b o x => Heap.get?_push_of_some _ (Heap.get?_push_of_some _ x)⟩
end
/-- the tuple at a, each item in a new pair with its place -/
def IteT (K : PySem.W.Frag) (a : Addr) : It :=
  ⟨fun i H => ∃ (xs : List V) (x : V), SqT K H a xs ∧ xs[i]? = some x, fun i H v H' => ∃ T x, v = .ref T ∧ H T = none ∧ H' = upd H T (.tup [.int (i : Nat), x]) ∧ ∀ xs, SqT K H a xs → xs[i]? = some x, fun i H => ∃ xs : List V, SqT K H a xs ∧ xs.length ≤ i⟩
theorem turn_enumT {P : Program} {w : World} {K : PySem.W.Frag} {elts : List Expr} {kk : Nat} {tpos : Pos} (a e it : Addr) :
    Turn P w K (.Tuple elts kk tpos) (IteT K a) [e, it] e (fun i h => (∃ old, IsEnum h e it ((i : Nat) : Int) old) ∧ h.IsTupleIter it a i ∧ e ≠ it) where
  mem := by simp
  obj := fun i h st b hb => by
    obtain ⟨⟨old, he⟩, ⟨o, ho, hc, hd⟩, _⟩ := st
    have e' : b = e ∨ b = it := by simpa using hb
    rcases e' with z | z
    · rw [z]; exact ⟨_, he, fun v q => nomatch q⟩
    · rw [z]; exact ⟨o, ho, fun v q => by rw [hd] at q; cases q⟩
  keep := fun i h h' st k => let ⟨⟨old, he⟩, hi, hne⟩ := st; ⟨⟨old, k e (by simp) _ he⟩, hi.at fun o q => k it (by simp) o q, hne⟩
  item := by
    intro X hP hw hK hc i pins s σ H E I hf st hg
    subst hP hw hK
    obtain ⟨⟨old, he⟩, hit, hne⟩ := st
    obtain ⟨xs, x, hq, hx⟩ := hg
    obtain ⟨its, rv, p, hz⟩ := I.tuple hq
    obtain ⟨u, hu, ru⟩ := rv.get hx
    have hel : e < s.heap.objs.size := Heap.lt_size he
    have hil : it < s.heap.objs.size := by obtain ⟨_, q, _⟩ := hit; exact Heap.lt_size q
    have ai : a ≠ it := by
      rintro rfl
      obtain ⟨o1, e1, c1, _⟩ := hit
      obtain ⟨o2, e2, c2, _⟩ := id p
      rw [e1] at e2; cases e2
      rw [c1] at c2
      exact absurd c2 (by decide)
    have ae : e ≠ a := by
      rintro rfl
      obtain ⟨o2, e2, c2, _⟩ := id p
      have e1 : s.heap.get? e = some _ := he
      rw [e1] at e2; cases e2
      exact absurd c2 (by show ¬ (Value.type "enumerate" = Value.type "tuple"); decide)
    have hlt : i < its.toArray.size := by
      have := (List.getElem?_eq_some_iff.mp hu).1
      simpa using this
    refine wpAny_pyNext_enum_itemD (Draws.tuple (A := X.A.in1) (I.ok.hd hc) it a ai its.toArray) he ⟨hit, p⟩ hlt hne (by simp [hne, ae]) fun x' h' tk hP ho hst' hT hsz hk => ?_
    have hxu : x' = u := by
      have hP : its.toArray[i]? = some x' := hP
      have hu' : its.toArray[i]? = some u := by simpa using hu
      rw [hu'] at hP
      exact (Option.some.inj hP).symm
    subst hxu
    refine ⟨_, rfl, wpAny_letOwnedTupleGo_enum (s := { s with heap := h', toks := tk + 1 }) ho fun h'' he' sb => ?_⟩
    have hT2 : h''.get? s.heap.objs.size = some { cls := .type "tuple", data := .seq #[.int i tk, x'] } := (sb.2 _ (Nat.ne_of_gt hel)).trans hT
    have new : ObjOk X.prog X.w (upd H s.heap.objs.size (.tup [.int (i : Nat), x])) h'' s.heap.objs.size (.tup [.int (i : Nat), x]) :=
      ⟨by show 2 ≤ sizeLine; decide, [.int i tk, x'], .cons ⟨_, rfl⟩ (.cons ru .nil), ⟨_, hT2, rfl, _, rfl⟩⟩
    have I1 : Inv X pins σ (upd H s.heap.objs.size (.tup [.int (i : Nat), x])) { s with heap := h'', toks := tk + 1 } :=
      I.turnedNew (ch := [e, it]) (fun b ob hb q => (sb.2 b (fun z => hb (by simp [z]))).trans (hk b ob (fun z => hb (by simp [z])) (fun z => hb (by simp [z])) q)) hf (Nat.le_refl _) new
    refine ⟨.ref s.heap.objs.size, _, I1, rfl, ⟨_, x, rfl, I.hok.fresh (Nat.le_refl _), rfl, fun ys hy => by rw [I.tuple_inj hy hq]; exact hx⟩, ⟨⟨x', ?_⟩, hst'.1.at fun o q => (sb.2 it (Ne.symm hne)).trans q, hne⟩, fun b hb => ?_⟩
    · have e1 : ((i + 1 : Nat) : Int) = (i : Int) + 1 := by omega
      rw [e1]; exact he'
    · have hb' : b < s.heap.objs.size := by
        have e' : b = e ∨ b = it := by simpa using hb
        rcases e' with z | z
        · rw [z]; exact hel
        · rw [z]; exact hil
      rw [upd_ne (Nat.ne_of_lt hb')]
      exact (hf b hb).1
  done := by
    intro X hP hw hK hc i pins s σ H E I hf st hg
    subst hP hw hK
    obtain ⟨⟨old, he⟩, hit, hne⟩ := st
    obtain ⟨xs, hq, hx⟩ := hg
    obtain ⟨its, rv, p, hz⟩ := I.tuple hq
    obtain ⟨f0, f1, f2, f3, f4, f5⟩ := hf it (by simp)
    have hl := rv.length
    have ai : a ≠ it := by
      rintro rfl
      obtain ⟨o1, e1, c1, _⟩ := hit
      obtain ⟨o2, e2, c2, _⟩ := id p
      rw [e1] at e2; cases e2
      rw [c1] at c2
      exact absurd c2 (by decide)
    have hn : its.toArray[i]? = none := by simp; omega
    have D : Draws X.prog X.w X.A.in1 it [it, a] i (fun _ _ => False) (fun j h => j = i ∧ h.IsTupleIter it a i ∧ h.IsTuple a its.toArray) :=
      { live := fun _ _ st => let ⟨o, ho, _⟩ := st.2.1; ⟨o, ho⟩
        frame := fun _ _ _ st hk => ⟨st.1, st.2.1.at fun o e => hk it (by simp) o e, st.2.2.at fun o e => hk a (by simp) o e⟩
        item := fun j s Q E hj st hQ => absurd st.1 (Nat.ne_of_lt hj)
        done := fun s Q E st hE => wpAny_nextOf_tuple_end (A := X.A.in1) (I.ok.hd hc) st.2.1 st.2.2 hn hE }
    exact wpAny_pyNext_enum_endD D he ⟨rfl, hit, p⟩ fun h' eb => ⟨rfl, I.turned (t' := s.toks) (fun b o hb q => eb b o hb q) f0 f1 f3 f4 f5⟩
  self := fun A i s Q E st h => let ⟨⟨_, he⟩, _⟩ := st; wpAny_pyIter_enum he h
/-- enumerate over a list, a tuple: the questions it asks -/
def rEn (K : PySem.W.Frag) (vs : List V) (H : Hp) (R : It → Hp → Prop) : Prop := (∃ a xs, vs = [.ref a] ∧ SqL K H a xs ∧ R (Ite K a) H) ∨ ∃ a xs, vs = [.ref a] ∧ SqT K H a xs ∧ R (IteT K a) H
theorem pi_enumG {X : Cx} {e : Expr} {ta : TA} {rr : List V → Hp → (It → Hp → Prop) → Prop} {p pos tpos : Pos} {elts : List Expr} {kk : Nat} (hg : Gl X "enumerate") (hm : X.mg "enumerate" = none) (ha : PA X [e] ta) (hs : starEach [e] X.env = [(false, eval e X.env)])
    (w : ∀ vs H R, rr vs H R → rEn X.K vs H R) : PI X (.Tuple elts kk tpos) (.Call (.Name "enumerate" p) [e] [] pos) (fun σ H R => ta σ H fun vs H1 => rr vs H1 R) := by
  refine ⟨fun pins s σ H R I h => ?_⟩
  refine Call_ (ld_blt I hg hm boot_enumerate (PyProof.Rows.callWith_type1 (thn (ha.run pos pins s σ H _ I h) fun us s1 ⟨vs, H1, I1, r1, q1⟩ => ?_) hs rfl))
  rcases w _ _ _ q1 with ⟨a, xs, rfl, hq, q⟩ | ⟨a, xs, rfl, hq, q⟩
  · cases r1 with
    | cons r rr =>
      cases rr
      cases r
      obtain ⟨its, rv, p', hz⟩ := I1.list hq
      refine call_enumerate_list p'.isList fun h' he hit hsz hk => wpAny_pyIter_enum he ?_
      have I2 : Inv X pins σ H1 { s1 with heap := h' } := I1.kept (t' := s1.toks) hk
      refine ⟨s1.heap.objs.size + 1, [s1.heap.objs.size + 1, s1.heap.objs.size], _, _, H1, rfl, I2, turn_enum a (s1.heap.objs.size + 1) s1.heap.objs.size, ⟨⟨.none, he⟩, hit, Nat.succ_ne_self _⟩, fun b hb => ?_, q⟩
      have e' : b = s1.heap.objs.size + 1 ∨ b = s1.heap.objs.size := by simpa using hb
      have hle : s1.heap.objs.size ≤ b := by
        rcases e' with z | z
        · rw [z]; exact Nat.le_add_right _ _
        · rw [z]; exact Nat.le_refl _
      exact I1.fpOk hle (I1.hok.fresh hle)
  · cases r1 with
    | cons r rr =>
      cases rr
      cases r
      obtain ⟨its, rv, p', hz⟩ := I1.tuple hq
      refine enum_beginsB (begins_tuple a its.toArray) (show s1.heap.IsTuple a its.toArray from p') fun h' he hit hsz hk => wpAny_pyIter_enum he ?_
      have I2 : Inv X pins σ H1 { s1 with heap := h' } := I1.kept (t' := s1.toks) hk
      refine ⟨s1.heap.objs.size + 1, [s1.heap.objs.size + 1, s1.heap.objs.size], _, _, H1, rfl, I2, turn_enumT a (s1.heap.objs.size + 1) s1.heap.objs.size, ⟨⟨.none, he⟩, ⟨_, hit, rfl, rfl⟩, Nat.succ_ne_self _⟩, fun b hb => ?_, q⟩
      have e' : b = s1.heap.objs.size + 1 ∨ b = s1.heap.objs.size := by simpa using hb
      have hle : s1.heap.objs.size ≤ b := by
        rcases e' with z | z
        · rw [z]; exact Nat.le_add_right _ _
        · rw [z]; exact Nat.le_refl _
      exact I1.fpOk hle (I1.hok.fresh hle)
def enL (k : Nat) : List D → List D
  | [] => []
  | d :: r => .wtp [.int k, d] :: enL (k + 1) r
theorem enL_len : ∀ (ds : List D) (k : Nat), (enL k ds).length = ds.length
  | [], _ => rfl
  | d :: r, k => by
    show (enL (k + 1) r).length + 1 = _
    rw [enL_len r]
    rfl
theorem enL_get : ∀ (ds : List D) (k i : Nat) (d : D), (enL k ds)[i]? = some d → ∃ x, ds[i]? = some x ∧ d = .wtp [.int (k + i : Nat), x]
  | [], _, i, d, h => by cases h
  | x :: r, k, 0, d, h => by
    cases h
    exact ⟨x, rfl, rfl⟩
  | x :: r, k, i + 1, d, h => by
    obtain ⟨y, h1, h2⟩ := enL_get r (k + 1) i d h
    refine ⟨y, h1, ?_⟩
    rw [h2]
    congr 4
    omega
def enS : D → Option (List D)
  | .lst xs => some (enL 0 xs)
  | .tup xs => some (enL 0 xs)
  | .wtp xs => some (enL 0 xs)
  | _ => none
def isTupE : Expr → Bool
  | .Tuple _ _ _ => true
  | _ => false
def iEnum : Ip where
  rcg := fun sc tg it => match it with
    | .Call (.Name x _) [a] [] _ => if (decide (x = ("enumerate" : Str)) && glB sc x && isTupE tg) = true then some [a] else none
    | _ => none
  sem := semL1 enS
theorem pair_rp {K : PySem.W.Frag} {Z : Addr → Prop} {H : Hp} {x y : D} {v u : V} {T : Addr} (h1 : Rp K Z H x v) (h2 : Rp K Z H y u) (hn : H T = none) : Rp K Z (upd H T (.tup [v, u])) (.wtp [x, y]) (.ref T) :=
  ⟨T, [v, u], rfl, upd_same, ⟨v, [u], rfl, Rp.mono (new_mono hn) _ _ h1, ⟨u, [], rfl, Rp.mono (new_mono hn) _ _ h2, rfl⟩⟩⟩
theorem iEnum_ok {C : Cn} (hm : C.mg "enumerate" = none) : iEnum.Ok C := by
  intro N sc k W X hX tg it es ts h1 h2 h3
  have hmX : X.mg "enumerate" = none := by rw [hX.cn] at hm; exact hm
  have hK : X.K = C.K := by rw [hX.cn]; rfl
  obtain ⟨p, pos, a, el, kk, tp, rfl, rfl, rfl, g1⟩ : ∃ p pos a el kk tp, it = .Call (.Name "enumerate" p) [a] [] pos ∧ tg = .Tuple el kk tp ∧ es = [a] ∧ glB sc "enumerate" = true := by
    unfold iEnum at h1
    dsimp only at h1
    split at h1
    · split at h1
      · rename_i h0
        cases h1
        rw [Bool.and_eq_true, Bool.and_eq_true, decide_eq_true_eq] at h0
        obtain ⟨⟨rfl, g⟩, g2⟩ := h0
        cases tg with
        | Tuple el kk tp => exact ⟨_, _, _, _, _, _, rfl, rfl, rfl, g⟩
        | _ => cases g2
      · cases h1
    · cases h1
  have hg : Gl X "enumerate" := glB_gl (by rw [← hX.sc]; exact g1)
  obtain ⟨s1, _⟩ := noStar_cons h3
  match ts, h2 with
  | [ta], h2 =>
    refine pi_enumG (rr := rIp C iEnum) hg hmX (PEs.pa h2 h3) (star_no s1) fun vs H R => ?_
    rw [hK]
    rintro ⟨Z, ds, items, hz, ha, hs, q⟩
    obtain ⟨d, rfl, hs⟩ := semL1_of hs
    obtain ⟨v, rfl, h1⟩ := ha.one
    have h1 : Vw C.K Z H d v := h1
    have listy : ∀ (p : Addr) (xs : List D), v = .ref p → items = enL 0 xs → (∀ (Z : Addr → Prop) (H : Hp), Vw C.K Z H d v → ∃ vs, SqL C.K H p vs ∧ RpL C.K Z H xs vs) → GoodIt C.K (Ite C.K p) [d] [v] items := fun p xs ep ei hv Z2 H2 hz2 ha2 => by
      subst ei
      obtain ⟨v2, e2, h2⟩ := ha2.one
      cases e2
      obtain ⟨vs, g1, g2⟩ := hv Z2 H2 h2
      refine ⟨fun i d hd => ?_, fun i hle => ⟨vs, g1, by rw [← g2.len, ← enL_len xs 0]; exact hle⟩⟩
      obtain ⟨x, hx, rfl⟩ := enL_get xs 0 i d hd
      obtain ⟨u, hu, ru⟩ := g2.get hx
      refine ⟨⟨vs, u, g1, hu⟩, ?_⟩
      rintro y H3 ⟨T, u', rfl, hn, rfl, hy⟩
      have hy := hy vs g1
      rw [hu] at hy; cases hy
      refine ⟨new_keep hn, ?_⟩
      rw [Nat.zero_add]
      exact pair_rp (show Rp C.K Z2 H2 (.int i) (.int i) from rfl) ru hn
    have tupy : ∀ (p : Addr) (xs : List D), v = .ref p → items = enL 0 xs → (∀ (Z : Addr → Prop) (H : Hp), Vw C.K Z H d v → ∃ vs, SqT C.K H p vs ∧ RpL C.K Z H xs vs) → GoodIt C.K (IteT C.K p) [d] [v] items := fun p xs ep ei hv Z2 H2 hz2 ha2 => by
      subst ei
      obtain ⟨v2, e2, h2⟩ := ha2.one
      cases e2
      obtain ⟨vs, g1, g2⟩ := hv Z2 H2 h2
      refine ⟨fun i d hd => ?_, fun i hle => ⟨vs, g1, by rw [← g2.len, ← enL_len xs 0]; exact hle⟩⟩
      obtain ⟨x, hx, rfl⟩ := enL_get xs 0 i d hd
      obtain ⟨u, hu, ru⟩ := g2.get hx
      refine ⟨⟨vs, u, g1, hu⟩, ?_⟩
      rintro y H3 ⟨T, u', rfl, hn, rfl, hy⟩
      have hy := hy vs g1
      rw [hu] at hy; cases hy
      refine ⟨new_keep hn, ?_⟩
      rw [Nat.zero_add]
      exact pair_rp (show Rp C.K Z2 H2 (.int i) (.int i) from rfl) ru hn
    cases d with
    | lst xs =>
      cases hs
      obtain ⟨p, vs, rfl, g1, g2⟩ := h1.lst
      refine .inl ⟨p, vs, rfl, .of g1, q _ (listy p xs rfl rfl fun Z2 H2 h2 => ?_)⟩
      obtain ⟨p2, vs2, e, k1, k2⟩ := h2.lst
      cases e
      exact ⟨vs2, .of k1, k2⟩
    | tup xs =>
      cases hs
      obtain ⟨p, vs, rfl, g1, g2⟩ := h1.tup
      refine .inr ⟨p, vs, rfl, g1, q _ (tupy p xs rfl rfl fun Z2 H2 h2 => ?_)⟩
      obtain ⟨p2, vs2, e, k1, k2⟩ := h2.tup
      cases e
      exact ⟨vs2, k1, k2⟩
    | wtp xs =>
      cases hs
      obtain ⟨p, vs, rfl, g1, g2⟩ := h1.wtp
      refine .inr ⟨p, vs, rfl, g1, q _ (tupy p xs rfl rfl fun Z2 H2 h2 => ?_)⟩
      obtain ⟨p2, vs2, e, k1, k2⟩ := h2.wtp
      cases e
      exact ⟨vs2, k1, k2⟩
    | _ => cases hs
end G
end
section
set_option maxRecDepth 100000
/-! isinstance(x, T), T a written built-in type. -/
namespace G
open PySem L2 PySem.Spec
open PyProof.Rows hiding St
/-- the name of a datum's type -/
def tyN : D → Option String
  | .non => some "NoneType"
  | .bl _ => some "bool"
  | .int _ => some "int"
  | .str _ => some "str"
  | .tup _ => some "tuple"
  | .wtp _ => some "tuple"
  | .lst _ => some "list"
  | _ => none
def isiT (T t : String) : Bool := t == T || (t == "bool" && T == "int")
def isiS (T : String) (d : D) : Option D := (tyN d).map fun t => .bl (isiT T t)
def pIsi (y : Str) (T : String) : Pr where
  rcg := fun sc e => match e with
    | .Call (.Name x _) [a, .Name z _] [] _ => if (decide (x = ("isinstance" : Str)) && glB sc x && (decide (z = y) && glB sc z)) = true then some [a] else none
    | _ => none
  sem := sem1 (isiS T)
theorem isi_shape {y : Str} {T : String} {sc : Scope} {e : Expr} {es : List Expr} (h : (pIsi y T).rcg sc e = some es) : ∃ p pos a q, e = .Call (.Name "isinstance" p) [a, .Name y q] [] pos ∧ es = [a] ∧ glB sc "isinstance" = true ∧ glB sc y = true := by
  unfold pIsi at h
  dsimp only at h
  split at h
  · rename_i x p a z q pos
    split at h
    · rename_i hc
      cases h
      simp only [Bool.and_eq_true, decide_eq_true_eq] at hc
      obtain ⟨⟨rfl, g1⟩, rfl, g2⟩ := hc
      exact ⟨p, pos, a, q, rfl, rfl, g1, g2⟩
    · cases h
  · cases h
/-- the types for which the answer is shown -/
def isiOk (T : String) : Prop := ∀ (K : PySem.W.Frag) (t : String), t ∈ ["NoneType", "bool", "int", "str", "tuple", "list"] → PySem.W.kitOne K (.type t) (.type T) = some (isiT T t)
theorem isi_all {T : String} (h : ∀ K : PySem.W.Frag, PySem.W.kitOne K (.type "NoneType") (.type T) = some (isiT T "NoneType") ∧ PySem.W.kitOne K (.type "bool") (.type T) = some (isiT T "bool") ∧ PySem.W.kitOne K (.type "int") (.type T) = some (isiT T "int") ∧
    PySem.W.kitOne K (.type "str") (.type T) = some (isiT T "str") ∧ PySem.W.kitOne K (.type "tuple") (.type T) = some (isiT T "tuple") ∧ PySem.W.kitOne K (.type "list") (.type T) = some (isiT T "list")) : isiOk T := by
  intro K t ht
  obtain ⟨h1, h2, h3, h4, h5, h6⟩ := h K
  simp only [List.mem_cons, List.not_mem_nil, or_false] at ht
  rcases ht with rfl | rfl | rfl | rfl | rfl | rfl
  · exact h1
  · exact h2
  · exact h3
  · exact h4
  · exact h5
  · exact h6
theorem isi_int : isiOk "int" := isi_all fun K => ⟨by kernel_rfl, by kernel_rfl, by kernel_rfl, by kernel_rfl, by kernel_rfl, by kernel_rfl⟩
theorem isi_str : isiOk "str" := isi_all fun K => ⟨by kernel_rfl, by kernel_rfl, by kernel_rfl, by kernel_rfl, by kernel_rfl, by kernel_rfl⟩
theorem isi_bool : isiOk "bool" := isi_all fun K => ⟨by kernel_rfl, by kernel_rfl, by kernel_rfl, by kernel_rfl, by kernel_rfl, by kernel_rfl⟩
theorem isi_tuple : isiOk "tuple" := isi_all fun K => ⟨by kernel_rfl, by kernel_rfl, by kernel_rfl, by kernel_rfl, by kernel_rfl, by kernel_rfl⟩
theorem isi_list : isiOk "list" := isi_all fun K => ⟨by kernel_rfl, by kernel_rfl, by kernel_rfl, by kernel_rfl, by kernel_rfl, by kernel_rfl⟩
def rIsi (C : Cn) (y : Str) (T : String) (vs : List V) (H : Hp) (Q : VK) : Prop := ∃ x, vs = [x, .ty T] ∧ rV C (pIsi y T) [x] H Q
theorem cr_isi {C : Cn} {X : Cx} {y : Str} {T : String} (hK : X.K = C.K) (ok : isiOk T) : CallR X (.builtin "isinstance") (rIsi C y T) := by
  intro pins s σ H xs us Q I r h
  obtain ⟨x, rfl, Z, ds, d, hz, ha, hs, q⟩ := h
  obtain ⟨u, u', rfl, rx, r2⟩ := vals2 r
  obtain rfl : u' = Value.type T := r2
  obtain ⟨a, rfl, hs⟩ := sem1_of hs
  obtain ⟨v, e, h1⟩ := ha.one
  cases e
  have h1 : Vw C.K Z H a x := h1
  have hk := ok X.K
  have fin : ∀ {b : Bool}, D.bl b = d → ∀ tk, EP X pins σ Q (.bool b) { s with toks := tk } := by
    rintro b rfl tk
    exact ⟨.bl b, H, I.tok _, rfl, q _ _ _ (PRes.same hz rfl)⟩
  rw [← hK] at h1
  cases a with
  | non =>
    cases hs
    obtain rfl : x = .non := h1.elim id fun ⟨a, _, t⟩ => by cases t
    cases (show u = Value.none from rx)
    exact PySem.W.kia_one PySem.W.kitx_none I.kIn True.intro (hk "NoneType" (by simp)) (fun z => nomatch z) (fin rfl)
  | bl b =>
    cases hs
    obtain rfl : x = .bl b := h1.elim id fun ⟨a, _, t⟩ => by cases t
    cases (show u = Value.bool b from rx)
    exact PySem.W.kia_one PySem.W.kitx_bool I.kIn True.intro (hk "bool" (by simp)) (fun z => nomatch z) (fin rfl)
  | int i =>
    cases hs
    obtain rfl : x = .int i := h1.elim id fun ⟨a, _, t⟩ => by cases t
    obtain ⟨t, rfl⟩ := (show ∃ t, u = Value.int i t from rx)
    exact PySem.W.kia_one PySem.W.kitx_int I.kIn True.intro (hk "int" (by simp)) (fun z => nomatch z) (fin rfl)
  | str z =>
    cases hs
    obtain rfl : x = .str z := h1.elim id fun ⟨a, _, t⟩ => by cases t
    obtain ⟨t, rfl⟩ := (show ∃ t, u = Value.str z t from rx)
    exact PySem.W.kia_one PySem.W.kitx_str I.kIn True.intro (hk "str" (by simp)) (fun z => nomatch z) (fin rfl)
  | tup ds =>
    cases hs
    obtain ⟨a, xs, rfl, g1, g2⟩ := h1.tup
    cases (show u = Value.ref a from rx)
    obtain ⟨its, rv, p, hz⟩ := I.tuple g1
    obtain ⟨o, h1, h2, _⟩ := p
    exact PySem.W.kia_one PySem.W.kitx_tuple I.kIn ⟨o, h1, h2⟩ (hk "tuple" (by simp)) (fun z => nomatch z) (fin rfl)
  | wtp ds =>
    cases hs
    obtain ⟨a, xs, rfl, g1, g2⟩ := h1.wtp
    cases (show u = Value.ref a from rx)
    obtain ⟨its, rv, p, hz⟩ := I.tuple g1
    obtain ⟨o, h1, h2, _⟩ := p
    exact PySem.W.kia_one PySem.W.kitx_tuple I.kIn ⟨o, h1, h2⟩ (hk "tuple" (by simp)) (fun z => nomatch z) (fin rfl)
  | lst ds =>
    cases hs
    obtain ⟨a, xs, rfl, g1, g2⟩ := h1.lst
    cases (show u = Value.ref a from rx)
    obtain ⟨its, rv, p, hz⟩ := I.list (.of g1)
    obtain ⟨o, h1, h2, _⟩ := p.isList
    exact PySem.W.kia_one PySem.W.kitx_list I.kIn ⟨o, h1, h2⟩ (hk "list" (by simp)) (fun z => nomatch z) (fin rfl)
  | _ => cases hs
theorem isi_te {C : Cn} {y : Str} {T : String} {te : TE} : tP C (pIsi y T) (tAll [te]) = tCB (rIsi C y T) (tCons te (tCons (tC (.ty T)) tNil)) := by
  funext σ H Q
  show (te σ H fun x H1 => rV C (pIsi y T) [x] H1 Q) = (te σ H fun x H1 => rIsi C y T [x, .ty T] H1 Q)
  refine congrArg (te σ H) ?_
  funext x H1
  exact propext ⟨fun h => ⟨x, rfl, h⟩, fun ⟨x', e, h⟩ => by cases e; exact h⟩
theorem pIsi_ok {C : Cn} {y : Str} {T : String} (ok : isiOk T) (hy : bootBuiltins y = some (.type T)) (hn : y ≠ ("__name__" : Str)) (hd : (y == ("__debug__" : Str)) = false) (hm : C.mg "isinstance" = none) (hmy : C.mg y = none) : (pIsi y T).Ok C where
  pe := by
    intro N sc k W X hX e es ts h1 h2 h3
    obtain ⟨p, pos, a, q, rfl, rfl, g1, g2⟩ := isi_shape h1
    have hmX : X.mg "isinstance" = none := by rw [hX.cn] at hm; exact hm
    have hmY : X.mg y = none := by rw [hX.cn] at hmy; exact hmy
    have hK : X.K = C.K := by rw [hX.cn]; rfl
    have hg : Gl X "isinstance" := glB_gl (by rw [← hX.sc]; exact g1)
    have hgy : Gl X y := glB_gl (by rw [← hX.sc]; exact g2)
    obtain ⟨s1, s2⟩ := noStar_cons h3
    match ts, h2 with
    | [te], ⟨h2, _⟩ =>
      rw [isi_te]
      exact pe_callB (cr_isi hK ok) hg hmX PyProof.Rows.boot_isinstance (pa_cons h2 (pa_cons (pe_bltn hgy hmY hy (v := .ty T) rfl hn hd) pa_nil rfl) (star_no s1)) (by decide) (by decide) (star_no s1) (noStar_any (es := [.Name y q]) rfl)
  nc := by
    intro sc e es h
    obtain ⟨p, pos, a, q, rfl, rfl, g1, g2⟩ := isi_shape h
    rfl
  bl := by intro h; cases h
  pt := by intro h; cases h
/-! ### names at the top that hold a number or a text -/
def gPr (y : Str) (k : Ct) : Pr where
  rcg := fun sc e => match e with
    | .Name x _ => if (decide (x = y) && glB sc x) = true then some [] else none
    | _ => none
  sem := fun ds => match ds with
    | [] => some k.d
    | _ => none
@[simp] theorem gPr_sem (y : Str) (k : Ct) : (gPr y k).sem [] = some k.d := rfl
theorem g_shape {y : Str} {k : Ct} {sc : Scope} {e : Expr} {es : List Expr} (h : (gPr y k).rcg sc e = some es) : ∃ p, e = .Name y p ∧ es = [] ∧ glB sc y = true := by
  unfold gPr at h
  dsimp only at h
  split at h
  · rename_i x p
    split at h
    · rename_i hc
      cases h
      simp only [Bool.and_eq_true, decide_eq_true_eq] at hc
      obtain ⟨rfl, g1⟩ := hc
      exact ⟨p, rfl, rfl, g1⟩
    · cases h
  · cases h
/-- what a name at the top holds -/
def CtV : Ct → Value → Prop
  | .int i, u => ∃ t, u = .int i t
  | .str z, u => ∃ t, u = .str z t
  | _, _ => False
def ctV : Ct → V
  | .non => .non
  | .bl b => .bl b
  | .int i => .int i
  | .str z => .str z
theorem gPr_ok {C : Cn} {y : Str} {k : Ct} (hd : (y == ("__debug__" : Str)) = false) (h : ∃ u, C.mg y = some u ∧ CtV k u) : (gPr y k).Ok C where
  pe := by
    intro N sc n W X hX e es ts h1 h2 h3
    obtain ⟨p, rfl, rfl, g1⟩ := g_shape h1
    obtain ⟨u, hu, hv⟩ := h
    have hmX : X.mg y = some u := by rw [hX.cn] at hu; exact hu
    have hg : Gl X y := glB_gl (by rw [← hX.sc]; exact g1)
    have rv : RelV (ctV k) u := by
      cases k with
      | int i => exact hv
      | str z => exact hv
      | _ => exact hv.elim
    match ts, h2 with
    | [], _ =>
      refine PE.weak (pe_glob hg hmX rv hd) fun c H Q => ?_
      rintro ⟨Z, ds, d, hz, ha, hs, q⟩
      cases ds with
      | nil =>
        cases hs
        refine q _ _ _ (PRes.same hz ?_)
        cases k <;> rfl
      | cons _ _ => cases hs
  nc := by
    intro sc e es h
    obtain ⟨p, rfl, rfl, g1⟩ := g_shape h
    rfl
  bl := fun h => by cases h
  pt := fun h => by cases h
/-! ### zip of two tuples -/
theorem PA.cl {X : Cx} {es : List Expr} {ta : TA} (h : PA X es ta) : PA X es (fun σ H Q => ∃ S : List V → Hp → Prop, ta σ H S ∧ ∀ vs H1, S vs H1 → Q vs H1) := by
  refine ⟨fun pos pins s σ H Q I hq => ?_⟩
  obtain ⟨S, h1, h2⟩ := hq
  exact thn (h.run pos pins s σ H S I h1) fun us s1 ⟨vs, H1, I1, r1, q1⟩ => ⟨vs, H1, I1, r1, h2 _ _ q1⟩
def tupL : D → Option (List D)
  | .tup xs => some xs
  | .wtp xs => some xs
  | _ => none
theorem tupL_vw {K : PySem.W.Frag} {d : D} {xs : List D} (h : tupL d = some xs) {Z : Addr → Prop} {H : Hp} {v : V} (hv : Vw K Z H d v) : ∃ a vs, v = .ref a ∧ SqT K H a vs ∧ RpL K Z H xs vs := by
  cases d with
  | tup ds => cases h; exact hv.tup
  | wtp ds => cases h; exact hv.wtp
  | _ => cases h
def zipD (xs ys : List D) : List D := List.zipWith (fun x y => .wtp [x, y]) xs ys
def zipS : List D → Option (List D)
  | [x, y] => (tupL x).bind fun xs => (tupL y).map fun ys => zipD xs ys
  | _ => none
theorem zipS_of {ds items : List D} (h : zipS ds = some items) : ∃ x y xs ys, ds = [x, y] ∧ tupL x = some xs ∧ tupL y = some ys ∧ items = zipD xs ys := by
  match ds, h with
  | [x, y], h =>
    have h : ((tupL x).bind fun xs => (tupL y).map fun ys => zipD xs ys) = some items := h
    cases e1 : tupL x with
    | none => rw [e1] at h; cases h
    | some xs =>
      rw [e1] at h
      cases e2 : tupL y with
      | none => rw [e2] at h; cases h
      | some ys =>
        rw [e2] at h
        cases h
        exact ⟨x, y, xs, ys, rfl, e1, e2, rfl⟩
def iZip : Ip where
  rcg := fun sc tg it => match it with
    | .Call (.Name x _) [a, b] [] _ => if (decide (x = ("zip" : Str)) && glB sc x && isTupE tg) = true then some [a, b] else none
    | _ => none
  sem := zipS
theorem iZip_ok {C : Cn} (hm : C.mg "zip" = none) : iZip.Ok C := by
  intro N sc k W X hX tg it es ts h1 h2 h3
  have hmX : X.mg "zip" = none := by rw [hX.cn] at hm; exact hm
  have hK : X.K = C.K := by rw [hX.cn]; rfl
  obtain ⟨p, pos, a, b, el, kk, tp, rfl, rfl, rfl, g1⟩ : ∃ p pos a b el kk tp, it = .Call (.Name "zip" p) [a, b] [] pos ∧ tg = .Tuple el kk tp ∧ es = [a, b] ∧ glB sc "zip" = true := by
    unfold iZip at h1
    dsimp only at h1
    split at h1
    · split at h1
      · rename_i h0
        cases h1
        rw [Bool.and_eq_true, Bool.and_eq_true, decide_eq_true_eq] at h0
        obtain ⟨⟨rfl, g⟩, g2⟩ := h0
        cases tg with
        | Tuple el kk tp => exact ⟨_, _, _, _, _, _, _, rfl, rfl, rfl, g⟩
        | _ => cases g2
      · cases h1
    · cases h1
  have hg : Gl X "zip" := glB_gl (by rw [← hX.sc]; exact g1)
  obtain ⟨s1, s2⟩ := noStar_cons h3
  have hz := RZ.pi_zipA (elts := el) (kk := kk) (tpos := tp) (p := p) (pos := pos) hg hmX (PA.cl (PEs.pa h2 h3)) (star_no s1) (noStar_any s2)
  refine ⟨fun pins s σ H R I h => hz.run pins s σ H R I ?_⟩
  refine ⟨_, h, fun vs H1 hh => ?_⟩
  rw [hK]
  obtain ⟨Z, ds, items, hz, ha, hs, q⟩ := hh
  obtain ⟨x, y, xs, ys, rfl, ex, ey, rfl⟩ := zipS_of hs
  obtain ⟨v, w, rfl, k1, k2⟩ := ha.two
  obtain ⟨a1, vs, rfl, t1, r1⟩ := tupL_vw ex (show Vw C.K Z H1 x v from k1)
  obtain ⟨a2, ws, rfl, t2, r2⟩ := tupL_vw ey (show Vw C.K Z H1 y w from k2)
  refine ⟨a1, a2, vs, ws, rfl, .inr ⟨t1, t2, q _ fun Z2 H2 hz2 ha2 => ?_⟩⟩
  obtain ⟨v', w', e, k1, k2⟩ := ha2.two
  cases e
  obtain ⟨b1, vs, e, t1, r1⟩ := tupL_vw ex (show Vw C.K Z2 H2 x (.ref a1) from k1)
  cases e
  obtain ⟨b2, ws, e, t2, r2⟩ := tupL_vw ey (show Vw C.K Z2 H2 y (.ref a2) from k2)
  cases e
  have hl : (zipD xs ys).length = min xs.length ys.length := List.length_zipWith
  refine ⟨fun i d hd => ?_, fun i hle => ⟨vs, ws, t1, t2, by rw [← r1.len, ← r2.len]; omega⟩⟩
  obtain ⟨x1, y1, hx, hy, rfl⟩ := List.getElem?_zipWith_eq_some.mp hd
  obtain ⟨u1, hu1, ru1⟩ := r1.get hx
  obtain ⟨u2, hu2, ru2⟩ := r2.get hy
  refine ⟨⟨vs, ws, u1, u2, t1, t2, hu1, hu2⟩, ?_⟩
  rintro y H3 ⟨T, u, u', rfl, hn, rfl, hy1, hy2⟩
  have hy1 := hy1 vs t1
  rw [hu1] at hy1; cases hy1
  have hy2 := hy2 ws t2
  rw [hu2] at hy2; cases hy2
  exact ⟨new_keep hn, pair_rp ru1 ru2 hn⟩
end G
end
section
set_option maxRecDepth 100000
/-! A def that calls itself: to a depth. -/
namespace G
open PySem L2 PySem.Spec
open PyProof.Rows hiding St
/-- a def of which nothing is said -/
theorem good_none {C : Cn} {x : Str} {st : Stmt} {ps : List Str} {lend : List Bool} {nw : Bool} (k : Nat) (D : DefAt C x st)
    (hb : ∀ (kV doc pm : Value) (an : Option Addr) (cdv ct : Value) (us : List Value), us.length = ps.length → bindArgs (PySem.W.fnOf x x (defArgs st) (defBody st) (defScope st) .none kV doc pm an cdv ct) ⟨us, []⟩ = pure (ps.zip us)) : FnGood C k ⟨x, lend, nw, fun _ => .stuck⟩ := by
  obtain ⟨fd, F⟩ := D.f
  have b := F.bindsN hb
  refine ⟨_, fd, ps, ⟨fun vs H Q E h => ?_, fun A outer s H args us vs Q E hr he hbb hv h => ?_⟩, D.g, F.kp, b⟩
  · obtain ⟨Z, ds, _, _, _, h⟩ := h
    exact h.elim
  · obtain ⟨Z, ds, _, _, _, h⟩ := h
    exact h.elim
/-- level by level -/
theorem good_rec {C : Cn} {x : Str} {lend : List Bool} {nw : Bool} {q : Nat → List D → FOut} {m : Nat} (h0 : ∀ k, FnGood C k ⟨x, lend, nw, q 0⟩) (hs : ∀ n k, m ≤ k → FnGood C k ⟨x, lend, nw, q n⟩ → FnGood C (k + 1) ⟨x, lend, nw, q (n + 1)⟩) : ∀ n, FnGood C (m + n) ⟨x, lend, nw, q n⟩
  | 0 => h0 _
  | n + 1 => hs n (m + n) (Nat.le_add_right _ _) (good_rec h0 hs n)
end G
end
section
set_option maxRecDepth 100000
/-! Refusals' classes, by the head's facts. -/
namespace G
open PySem L2 PySem.Spec
open PyProof.Rows hiding St
section
variable {P : Program} {w : World} {K : PySem.W.Frag} {h base : Heap} {mg : Str → Option Value}
theorem xa_ga {x : Ex} (e : mg x.name = some (.ref (He.ga K x.name))) : xa mg x = He.ga K x.name := by
  unfold xa
  rw [e]
theorem ExF.of (X : K.In h) (G : h.Ns mainGlobals mg) {fa : List He.Fa} {fn : List He.DefD} (c : He.SaysD fa fn K) {x : Ex} (i j : Nat) (hi : fa[i]? = some (.glo x.name)) (hj : fa[j]? = some (.exc x.name)) : ExF ⟨P, w, K, mg, base⟩ x := by
  have e := He.glo_ok X G (c.fact i hi)
  have q := xa_ga e
  obtain ⟨q1, q2, q3, q4⟩ := He.exc_ok (c.fact j hj)
  rw [← q] at e q1 q2 q3 q4
  exact ⟨e, q2, ⟨_, _, _, _, PySem.F.excBase_ValueError, q1⟩, q3, q4⟩
theorem ExM.of (X : K.In h) (G : h.Ns mainGlobals mg) {fa : List He.Fa} {fn : List He.DefD} (c : He.SaysD fa fn K) {x y : Ex} (i j k : Nat) (hi : fa[i]? = some (.glo x.name)) (hj : fa[j]? = some (.glo y.name)) (hk : fa[k]? = some (.exm x.name y.name (x.isA y))) :
    PySem.W.exmOne K (.ref (xa mg x)) (.ref (xa mg y)) = some (x.isA y) := by
  rw [xa_ga (He.glo_ok X G (c.fact i hi)), xa_ga (He.glo_ok X G (c.fact j hj))]
  exact He.exm_ok (c.fact k hk)
end
end G
end
section
set_option maxRecDepth 100000
set_option maxHeartbeats 0
/-! Sets of texts: how they stand, what is added, how they are sorted. -/
namespace TX
open PySem L2 PySem.Spec
open PyProof.Rows
/-- the text of an entry -/
def txO (e : Int × Value) : Str := match e.2 with
  | .str x _ => x
  | _ => Str.empty
def TxE (w : World) (e : Int × Value) : Prop := ∃ x tk, e.2 = Value.str x tk ∧ e.1 = hashStr w x
/-- at a stands the set of the texts S, n of them -/
def TxR (w : World) (h : Heap) (a : Addr) (S : Str → Bool) (n : Nat) : Prop :=
  ∃ (o : Obj) (es : Array (Int × Value)) (ep : Nat) (t : SetTable), (h.get? a = some o ∧ o.ExactSet ∧ o.data = .set es ep t) ∧ (∀ e ∈ es.toList, TxE w e) ∧ (es.toList.map txO).Nodup ∧ (∀ z, S z = true ↔ z ∈ es.toList.map txO) ∧
    (es.size < scanBound ∧ t.fits es.size = true ∧ es.size = n) ∧ Ris t.place.toList ∧ (w.params.followText "set-order" = true ∨ t.led = true)
section
variable {P : Program} {w : World} {h h' : Heap} {a : Addr} {S S' : Str → Bool} {n : Nat}
theorem TxR.keep (R : TxR w h a S n) (k : ∀ o, h.get? a = some o → h'.get? a = some o) : TxR w h' a S n := by
  obtain ⟨o, es, ep, t, ⟨ho, q⟩, r⟩ := R
  exact ⟨o, es, ep, t, ⟨k o ho, q⟩, r⟩
theorem TxR.as (R : TxR w h a S n) (e : ∀ k, S' k = S k) : TxR w h a S' n := by
  rw [show S' = S from funext e]
  exact R
theorem tx_elems {l : List (Int × Value)} (g : ∀ e ∈ l, TxE w e) : ElemsOf (strKind P w) l := by
  intro e he
  obtain ⟨x, tk, q1, q2⟩ := g e he
  refine ⟨⟨x, ?_, q2⟩, ?_⟩
  · rw [q1]; exact strKind_is P w x tk
  · rw [q1]; rfl
theorem tx_is {e : Int × Value} (g : TxE w e) (x : Str) : (strKind P w).is x e.2 = true ↔ txO e = x := by
  obtain ⟨y, tk, q, _⟩ := g
  unfold txO
  rw [q]
  show (y == x) = true ↔ y = x
  exact beq_iff_eq
theorem tx_mem {l : List (Int × Value)} (g : ∀ e ∈ l, TxE w e) (x : Str) : x ∈ l.map txO ↔ ∃ e ∈ l, (strKind P w).is x e.2 = true :=
  List.mem_map.trans ⟨fun ⟨e, he, q⟩ => ⟨e, he, (tx_is (g e he) x).2 q⟩, fun ⟨e, he, q⟩ => ⟨e, he, (tx_is (g e he) x).1 q⟩⟩
/-- a new set -/
theorem tx_new (ho : h.get? a = some { cls := .type "set", dict := none, data := .set #[] 0 (.fresh 0 0 (!w.params.followText "set-order")) }) : TxR w h a (fun _ => false) 0 := by
  refine ⟨_, #[], 0, _, ⟨ho, ⟨rfl, rfl, rfl⟩, rfl⟩, fun e he => ?_, ?_, fun k => ?_, ⟨by decide, by rfl, rfl⟩, List.Pairwise.nil, ?_⟩
  · simp at he
  · simp
  · simp
  · by_cases q : w.params.followText "set-order" = true
    · exact .inl q
    · refine .inr ?_
      show (!w.params.followText "set-order") = true
      rw [Bool.eq_false_iff.mpr q]
      rfl
end
section
variable {P : Program} {w : World} {A : Around} {E : Value → Shared → Prop} {s : Shared} {a : Addr} {S : Str → Bool} {n : Nat}
theorem put_at {h : Heap} {b : Addr} {o : Obj} {u v : Array (Int × Value)} {ep : Nat} {t z : SetTable} (ho : h.get? b = some o) (hd : o.data = .set u ep t) : (h.update b (Obj.putSet v z)).get? b = some { o with data := .set v (ep + 1) z } := by
  have q := Heap.get?_update_self (Obj.putSet v z) ho (by rw [putSet_of v z hd] <;> rfl)
  rw [q, putSet_of v z hd]
/-- the end of an adding: the table is stored, and laid anew if it is too full -/
theorem tx_tail {f : Bool → Sem Unit} (hf : ∀ (b : Bool) (s₁ : Shared) (Q' : Unit → Shared → Prop), Q' () s₁ → wpAny (model P w) A (f b) Q' E s₁)
    {o : Obj} {u : Array (Int × Value)} {ep : Nat} {t : SetTable} (ob : s.heap.get? a = some o ∧ o.ExactSet ∧ o.data = .set u ep t)
    {v : Array (Int × Value)} {z : SetTable} {S' : Str → Bool} (g : ∀ e ∈ v.toList, TxE w e) (nd : (v.toList.map txO).Nodup) (mm : ∀ x, S' x = true ↔ x ∈ v.toList.map txO)
    (vb : v.size < scanBound) (zf : z.fits v.size = true) (zr : Ris z.place.toList) (zl : w.params.followText "set-order" = true ∨ z.led = true) {dm : Bool} {R : Option Bool → Shared → Prop}
    (hR : ∀ k, Heap.SameBut a s.heap k → TxR w k a S' v.size → R (some true) { s with heap := k }) :
    wpAny (model P w) A (do
        storeSet a v z
        if (!dm && z.tooFull) = true then do
            f (relayAll z v (SetTable.grown v.size)).2.2
            storeSet a (relayAll z v (SetTable.grown v.size)).1 (relayAll z v (SetTable.grown v.size)).2.1
            pure (some true)
          else pure (some true))
      R E s := by
  obtain ⟨ho, ex, hd⟩ := ob
  refine wpAny_bind (wpAny_storeSet_of ho hd ?_ (fits_of_scanBound vb))
  have o1 := put_at (v := v) (z := z) ho hd
  have b1 := Heap.SameBut.update s.heap a (Obj.putSet v z)
  by_cases c : (!dm && z.tooFull) = true
  · rw [if_pos c]
    have p1 := relayAll_perm z v (SetTable.grown v.size)
    have p2 := relayAll_fits z v (SetTable.grown v.size)
    have p3 := relayAll_ris z v (SetTable.grown v.size)
    have p4 := relayAll_led z v (SetTable.grown v.size)
    revert p1 p2 p3 p4
    generalize relayAll z v (SetTable.grown v.size) = Y
    obtain ⟨v2, z2, gv⟩ := Y
    dsimp only
    intro p1 p2 p3 p4
    have sz : v2.size = v.size := by rw [← Array.length_toList, p1.length_eq] <;> exact Array.length_toList
    have vb2 : v2.size < scanBound := sz ▸ vb
    refine wpAny_bind (hf _ _ _ (wpAny_bind (wpAny_storeSet_of o1 rfl ?_ (fits_of_scanBound vb2))))
    have o2 := put_at (v := v2) (z := z2) o1 rfl
    refine wpAny_pure (hR _ (b1.trans (Heap.SameBut.update _ a _)) ⟨_, v2, _, z2, ⟨o2, ex, rfl⟩, fun e he => g e (p1.mem_iff.mp he), (p1.map txO).nodup_iff.mpr nd, fun x => (mm x).trans (p1.map txO).mem_iff.symm, ⟨vb2, p2, sz⟩, p3, ?_⟩)
    rcases zl with q | q
    · exact .inl q
    · exact .inr (p4.trans q)
  · rw [if_neg c]
    exact wpAny_pure (hR _ b1 ⟨_, v, _, z, ⟨o1, ex, rfl⟩, g, nd, mm, ⟨vb, zf, rfl⟩, zr, zl⟩)
theorem tx_add {x : Str} {tk : Tok} {Q : Bool → Shared → Prop} (R : TxR w s.heap a S n) (room : n + 1 < scanBound)
    (hQ : ∀ k, Heap.SameBut a s.heap k → TxR w k a (fun y => S y || decide (y = x)) (if S x = true then n else n + 1) → Q (!S x) { s with heap := k }) :
    wpAny (model P w) A (setAddHashed a (.str x tk) ((strKind P w).hash x)) Q E s := by
  obtain ⟨o, u, ep, t, ob, g, nd, mm, ⟨ub, tf, un⟩, tr, tl⟩ := R
  have isx : (strKind P w).is x (.str x tk) = true := strKind_is P w x tk
  have scx : (Value.str x tk).scannable = true := rfl
  have el : ElemsOf (strKind P w) u.toList := tx_elems g
  unfold setAddHashed
  unfold setAddHashedIn
  refine wpAny_holding (wpAny_bind (wpAny_setState_of ob.1 ob.2.2 tf ?_))
  dsimp only
  rw [byScan_of scx ub el, if_pos rfl]
  unfold setAddByScan
  refine wpAny_bind (wpAny_bind (wpAny_rule (wpAny_bind (wpAny_setScan_of isx ob.1 ob.2.2 tf el ?_))))
  cases hi : List.findIdx? (fun e => (strKind P w).is x e.2) u.toList with
  | some j =>
    dsimp only
    obtain ⟨hj, pj, _⟩ := List.findIdx?_eq_some_iff_getElem.mp hi
    have hx : S x = true := (mm x).2 ((tx_mem (P := P) g x).2 ⟨_, List.getElem_mem hj, pj⟩)
    have q := hQ s.heap (Heap.SameBut.refl a s.heap)
    rw [if_pos hx, hx] at q
    refine wpAny_pure (wpAny_pure (q ⟨o, u, ep, t, ob, g, nd, fun y => ?_, ⟨ub, tf, un⟩, tr, tl⟩))
    rw [Bool.or_eq_true, decide_eq_true_eq, ← mm y]
    exact ⟨fun z => z.elim id fun e => e ▸ hx, .inl⟩
  | none =>
    dsimp only
    have nx : x ∉ u.toList.map txO := fun z => by
      obtain ⟨e, he, q⟩ := (tx_mem (P := P) g x).1 z
      exact absurd q (by rw [List.findIdx?_eq_none_iff.mp hi e he] <;> exact Bool.false_ne_true)
    have hx : S x = false := Bool.eq_false_iff.mpr fun q => nx ((mm x).1 q)
    have rl : ∀ (b : Bool) {s₁ : Shared} {Q' : Unit → Shared → Prop}, Q' () s₁ → wpAny (model P w) A (match b with | true => rule "set.scan.the-table-gave-way" | false => pure ()) Q' E s₁ := by
      intro b s₁ Q' q
      cases b
      · exact wpAny_pure q
      · exact wpAny_rule q
    have l1 := layNew_perm t u ((strKind P w).hash x) (.str x tk)
    have l2 := layNew_fits t u ((strKind P w).hash x) (.str x tk)
    have l3 := layNew_ris t u ((strKind P w).hash x) (.str x tk) tr
    have l4 := layNew_led t u ((strKind P w).hash x) (.str x tk)
    revert l1 l2 l3 l4
    generalize layNew t u ((strKind P w).hash x) (.str x tk) = Y
    obtain ⟨v, z, dm, gv⟩ := Y
    dsimp only
    rw [Array.toList_push]
    intro l1 l2 l3 l4
    have pc : v.toList.Perm (((strKind P w).hash x, Value.str x tk) :: u.toList) := l1.trans (List.perm_append_singleton _ _)
    have pk : (v.toList.map txO).Perm (x :: u.toList.map txO) := pc.map txO
    have g1 : ∀ e ∈ v.toList, TxE w e := by
      intro e he
      rcases List.mem_cons.mp (pc.mem_iff.mp he) with q | q
      · exact q ▸ ⟨x, tk, rfl, rfl⟩
      · exact g e q
    have n1 : (v.toList.map txO).Nodup := pk.nodup_iff.mpr (List.nodup_cons.mpr ⟨nx, nd⟩)
    have m1 : ∀ y, (S y || decide (y = x)) = true ↔ y ∈ v.toList.map txO := by
      intro y
      rw [pk.mem_iff, List.mem_cons, ← mm y, Bool.or_eq_true, decide_eq_true_eq]
      exact Or.comm
    have sz : v.size = n + 1 := by rw [← Array.length_toList, pc.length_eq, List.length_cons, Array.length_toList] <;> rw [un]
    have vb : v.size < scanBound := sz ▸ room
    have zl : w.params.followText "set-order" = true ∨ z.led = true := by
      rcases tl with q | q
      · exact .inl q
      · exact .inr (l4.trans q)
    have fin : ∀ k, Heap.SameBut a s.heap k → TxR w k a (fun y => S y || decide (y = x)) v.size → Q true { s with heap := k } := by
      intro k b r
      have q := hQ k b
      rw [if_neg (by rw [hx] <;> exact Bool.false_ne_true), hx, ← sz] at q
      exact q r
    refine wpAny_bind (rl _ ?_)
    split
    · refine wpAny_bind ?_
      rw [hashByValue_scannable 8 scx]
      refine wpAny_pure (tx_tail ?_ ob g1 n1 m1 vb ?_ ?_ ?_ ?_)
      · intro b s₁ Q' q
        exact rl b q
      · first | (split <;> first | exact l2 | exact SetTable.fits_plain_off l2) | exact l2
      · first | (split <;> exact l3) | exact l3
      · first | (split <;> exact zl) | exact zl
      · intro k b r
        dsimp only
        exact wpAny_pure (fin k b r)
    · refine wpAny_bind ?_
      refine wpAny_pure ?_
      simp only [↓reduceIte]
      refine tx_tail ?_ ob g1 n1 m1 vb l2 l3 zl ?_
      · intro b s₁ Q' q
        exact rl b q
      · intro k b r
        dsimp only
        exact wpAny_pure (fin k b r)
end
end TX
end
section
set_option maxRecDepth 100000
set_option maxHeartbeats 0
/-! set(xs), xs a list of texts. -/
namespace TX
open PySem L2 PySem.Spec
open PyProof.Rows
theorem tx_get : ∀ {us : List Value} {xs : List Str}, StrsAre us xs → ∀ (i : Nat) (v : Value), us[i]? = some v → ∃ x t, xs[i]? = some x ∧ v = .str x t
  | _, _, .nil, _, _, h => by simp at h
  | _, _, .cons x t hr, 0, v, h => ⟨x, t, rfl, by simpa using h.symm⟩
  | _, _, .cons x t hr, i + 1, v, h => tx_get hr i v (by simpa using h)
section
variable {P : Program} {w : World} {A : Around}
variable {E : Value → Shared → Prop} {s : Shared}
theorem tx_loop {I : Addr} {fp wr : List Addr} {G : Array GenState → Array GenState → Prop} {m : Nat} {Pv : Nat → Value → Prop} {St : Nat → Shared → Prop} {R : Result → Shared → Prop}
    (W : WalksS P w A.in1 I fp wr G m Pv St) (S : Addr) (free : S ∉ fp) (xs : List Str) (hm : m = xs.length) (few : xs.length + 1 < scanBound) (val : ∀ i v, Pv i v → ∃ x t, xs[i]? = some x ∧ v = .str x t) :
    ∀ (k i : Nat) (s : Shared), m - i = k → i ≤ m → St i s → (∃ c, c ≤ i ∧ TxR w s.heap S (fun y => decide (y ∈ xs.take i)) c) →
      (∀ z c, Moved (S :: wr) G s z → TxR w z.heap S (fun y => decide (y ∈ xs)) c → R (.ok (.ret .none)) z) →
      codeAny (model P w) A (.builtin "set.update.loop"
        ⟨[.ref S, .ref I], []⟩) R s := by
  have off : S ∉ wr := fun q => free (W.sub _ q)
  have sub : ∀ b ∈ wr, b ∈ S :: wr := fun b q => List.mem_cons_of_mem _ q
  intro k
  induction k with
  | zero =>
    rintro i s hk hi st ⟨c, hc, r⟩ fin
    have ei : i = m := Nat.le_antisymm hi (Nat.sub_eq_zero_iff_le.mp hk)
    refine codeAny_builtin PyProof.Rows.F.entry_set_update_loop (Eq.mpr (by rw [Around.under_plainId PyProof.Rows.F.plain_set_update_loop _]) ?_)
    show wpAny (model P w) A.in1 (pyNext (.ref I) >>= _) _ _ _
    subst ei
    refine wpAny_bind (W.done s _ _ st fun z mv => ?_)
    rw [List.take_of_length_le (Nat.le_of_eq hm.symm)] at r
    show wpAny (model P w) A.in1 (ret Value.none) _ _ _
    exact wpAny_pure (fin z c (mv.mono sub) (r.keep fun o e => mv.heap S o off e))
  | succ k ih =>
    rintro i s hk hi st ⟨c, hc, r⟩ fin
    have lt : i < m := Nat.lt_of_sub_pos (by rw [hk] <;> exact Nat.succ_pos k)
    refine codeAny_builtin PyProof.Rows.F.entry_set_update_loop (Eq.mpr (by rw [Around.under_plainId PyProof.Rows.F.plain_set_update_loop _]) ?_)
    show wpAny (model P w) A.in1 (pyNext (.ref I) >>= _) _ _ _
    refine wpAny_bind (W.item i s _ _ lt st fun v z pv st2 mv => ?_)
    obtain ⟨x, t, hx, rfl⟩ := val i v pv
    have r2 : TxR w z.heap S (fun y => decide (y ∈ xs.take i)) c := r.keep fun o e => mv.heap S o off e
    show wpAny _ A.in1 (holding [Value.str x t] (setAdd S (.str x t)) >>= _) _ _ _
    refine wpAny_bind ?_
    refine wpAny_holding ?_
    unfold setAdd
    refine wpAny_holding (wpAny_bind ((PySem.strKind P w).pyHash (k := x) (strKind_is P w x t) ?_))
    refine tx_add (s := { z with toks := z.toks + 1 }) r2 (by omega) fun h2 sb r3 => ?_
    have r4 : TxR w h2 S (fun y => decide (y ∈ xs.take (i + 1))) (if decide (x ∈ xs.take i) = true then c else c + 1) := r3.as fun y => by
      rw [List.take_add_one, hx] <;> simp [List.mem_append]
    have few2 : (if decide (x ∈ xs.take i) = true then c else c + 1) ≤ i + 1 := by split <;> omega
    have nb : ∀ b, b ∉ S :: wr → b ≠ S := fun b q e => q (e ▸ List.mem_cons_self)
    refine wpAny_pure ⟨plainId_quiet PyProof.Rows.F.plain_set_update_loop _, ih (i + 1) _ (by omega) lt (W.frame _ z _ _ st2 (Nat.le_succ _) fun b hb o e => ?_) ⟨_, few2, r4⟩ fun y c2 mv2 r5 => ?_⟩
    · exact (sb.2 b fun q => free (q ▸ hb)).trans e
    · exact fin y c2 (Moved.trans W.gtrans ((mv.mono sub).then_heap (Nat.le_succ _) fun b o hb e => (sb.2 b (nb b hb)).trans e) mv2) r5
abbrev emptyS (w : World) : Obj := { cls := .type "set", dict := none, data := .set #[] 0 (.fresh 0 0 (!w.params.followText "set-order")) }
/-- set(xs) -/
theorem tx_call {l : Addr} {items : Array Value} {xs : List Str} {Q : Value → Shared → Prop} (calm : A.handled = none) (hl : s.heap.IsList l items) (hi : StrsAre items.toList xs) (few : xs.length + 1 < scanBound)
    (h : ∀ (z : Heap) (tk c : Nat), TxR w z s.heap.objs.size (fun y => decide (y ∈ xs)) c → (∀ b o, s.heap.get? b = some o → z.get? b = some o) → Q (.ref s.heap.objs.size) { s with heap := z, toks := tk }) :
    wpAny (model P w) A (call (.type "set")
      [.ref l]) Q E s := by
  have isz : items.size = xs.length := by rw [← Array.length_toList] <;> exact StrsAre.len_eq hi
  have F1 := PySem.F.called_set.made
  have F2 := PySem.F.called_set.sub
  obtain ⟨c, tl, F3⟩ := PySem.F.called_set.mro
  refine wpAny_call ?_
  refine codeAny_of_tree ?_
  show wpAny (model P w) _ (callAny (.type "set") _) _ _ _
  refine wpAny_pure ⟨Code.quiet_builtin _ (by decide +kernel), codeAny_builtin PySem.F.entry_type_call (Eq.mpr (by rw [Around.under_plain (weight_type_call_type "set" [.ref l] []) rfl]) ?_)⟩
  have F4 := PySem.F.called_set.notType
  have F5 := PySem.F.called_set.canCreate
  have F6 := PySem.F.typeCall_set_1 (.ref l)
  repeat (any_goals first | assumption | wp_step)
  refine codeAny_mono (code_set_led1 (.ref l) (E := E) (Q₁ := fun obj s₁ => obj = .ref s.heap.objs.size ∧ s₁ = { s with heap := s.heap.push (emptyS w) }) ⟨rfl, rfl⟩) fun r s₁ hr => ?_
  cases r with
  | error e => exact hr
  | ok fl =>
    cases fl with
    | ret obj =>
      obtain ⟨rfl, rfl⟩ := hr
      have at0 : (s.heap.push (emptyS w)).get? s.heap.objs.size = some (emptyS w) := Heap.get?_push_size _ rfl
      have ty0 : Shared.TypeIs { s with heap := s.heap.push (emptyS w) } (.ref s.heap.objs.size) "set" := ⟨_, at0, rfl⟩
      have F7 := PySem.F.called_set.init.lookup
      have F8 := PySem.F.called_set.init.bind (.ref s.heap.objs.size)
      repeat (any_goals first | assumption | wp_step)
      refine codeAny_mono (codeAny_call_builtin (R := wants (fun r s₂ => r = .none ∧ ∃ z tk c, s₂ = { s with heap := z, toks := tk } ∧ TxR w z s.heap.objs.size (fun y => decide (y ∈ xs)) c ∧ (∀ b o, s.heap.get? b = some o → z.get? b = some o)) E) PySem.F.called_set.init.plain PySem.F.entry_set_init (check_set_init_1 ty0 ?_)) fun r₂ s₂ hr₂ => ?_
      · obtain ⟨⟨ocls, odict, odata, oslots⟩, hol, hcl, nl, hdl⟩ := hl
        simp only at hcl hdl
        subst hcl hdl
        have hol' : (s.heap.push (emptyS w)).get? l = some { cls := .type "list", dict := odict, data := .seq items nl, slots := oslots } := Heap.get?_push_of_some _ hol
        have F9 := PySem.F.sub_list_set
        have F10 := PySem.F.sub_list_frozenset
        have F11 : (Value.type "list" == Value.type "dict") = false := by decide
        have hl1 : (s.heap.push (emptyS w)).IsList l items := ⟨_, hol', rfl, nl, rfl⟩
        unfold Builtin.«set.__init__» noKeywords
        unfold Builtin.Frozenset.updateFrom
        generalize hPI : pyIter = PI
        wp_walk
        subst hPI
        refine wpAny_pyIter_list hl1 (wpAny_bind (wpAny_runValue ?_))
        have ll : l < s.heap.objs.size := Heap.lt_size hol
        have z1 : (s.heap.push (emptyS w)).objs.size = s.heap.objs.size + 1 := Heap.size_push ..
        have ne1 : l ≠ (s.heap.push (emptyS w)).objs.size := by
          rw [z1]
          exact Nat.ne_of_lt (Nat.lt_succ_of_lt ll)
        have free : s.heap.objs.size ∉ [(s.heap.push (emptyS w)).objs.size, l] := by
          rw [z1, List.mem_cons, List.mem_singleton]
          exact fun q => q.elim (Nat.ne_of_lt (Nat.lt_succ_self _)) (Nat.ne_of_gt ll)
        have val : ∀ (i : Nat) (v : Value), items[i]? = some v → ∃ x t, xs[i]? = some x ∧ v = .str x t := fun i v q => tx_get hi i v (by rw [Array.getElem?_toList] <;> exact q)
        refine tx_loop ((Walks.list (show A.in1.in1.in1.handled = none by simp [calm]) _ l ne1 items).toS) s.heap.objs.size free xs isz few val (items.size - 0) 0 _ (Nat.sub_zero _).symm.symm (Nat.zero_le _) ⟨⟨_, Heap.get?_push_size _ rfl, rfl, rfl⟩, (hl1.push _)⟩ ⟨0, Nat.le_refl _, ?_⟩ ?_
        · exact (tx_new (w := w) (Heap.get?_push_of_some _ at0)).as fun y => by simp
        · intro z c mv r
          obtain ⟨h', g2, d2, tk, os2⟩ := z
          have e1 : g2 = s.gens := mv.gens
          have e2 : d2 = s.drawn := mv.drawn
          have e3 : os2 = s.os := mv.os
          subst e1 e2 e3
          show wpAny _ _ _ _ _ _
          refine wpAny_pure ?_
          show wpAny (model P w) _ (ret Value.none) _ _ _
          refine wpAny_pure ⟨rfl, h', tk, c, rfl, r, fun b o e => ?_⟩
          have lb : b < s.heap.objs.size := Heap.lt_size e
          refine mv.heap b o ?_ (Heap.get?_push_of_some _ (Heap.get?_push_of_some _ e))
          rw [z1, List.mem_cons, List.mem_singleton]
          exact fun q => q.elim (Nat.ne_of_lt lb) (Nat.ne_of_lt (Nat.lt_succ_of_lt lb))
      · cases r₂ with
        | error e => exact hr₂
        | ok fl₂ =>
          cases fl₂ with
          | ret r =>
            obtain ⟨rfl, z, tk, c, rfl, r1, k1⟩ := hr₂
            repeat (any_goals first | assumption | wp_step)
            exact h _ _ _ r1 k1
          | _ => exact hr₂.elim
    | _ => exact hr.elim
end
end TX
end
section
set_option maxRecDepth 100000
set_option maxHeartbeats 0
/-! sorted(set(xs)), len(set(xs)), xs a list of texts. -/
namespace TX
open PySem L2 PySem.Spec
open PyProof.Rows
theorem tx_strs : ∀ (l : List Value), (∀ v ∈ l, ∃ x tk, v = Value.str x tk) → StrsAre l (l.map PyProof.Rows.strOf)
  | [], _ => .nil
  | v :: l, h => by
    obtain ⟨x, tk, rfl⟩ := h v List.mem_cons_self
    exact .cons x tk (tx_strs l fun u hu => h u (List.mem_cons_of_mem _ hu))
section
variable {P : Program} {w : World} {A : Around}
variable {E : Value → Shared → Prop} {s : Shared}
theorem tx_sorted {a : Addr} {S : Str → Bool} {n : Nat} {Q : Value → Shared → Prop} (R : TxR w s.heap a S n) (calm : A.handled = none) (few : n < 64)
    (hQ : ∀ z p (out : Array Value) (c : Nat) (ys : List Str), (∀ b o, s.heap.get? b = some o → z.heap.get? b = some o) → z.gens = s.gens → z.os = s.os → s.heap.objs.size ≤ p →
      z.heap.get? p = some (seqObj "list" out c) → StrsAre out.toList ys → sortedS ys = true → ys.Nodup → (∀ y, y ∈ ys ↔ S y = true) → ys.length = n → Q (.ref p) z) :
    wpAny (model P w) A (call (.builtin "sorted") [.ref a]) Q E s := by
  obtain ⟨o, es, ep, t, ⟨ho, ex, hd⟩, g, nd, mm, ⟨eb, tf, en⟩, tr, tl⟩ := R
  refine Calls.call_function_entry kind_sorted plain_sorted entry_sorted (args_sorted1 _) ?_
  unfold Builtin.«sorted»
  refine wpAny_bind (m := checkCount "sorted" 1 1 _) (wpAny_pure ?_)
  refine wpAny_bind (collect_set (A := A.in1) calm ⟨o, ho, ex.1, hd⟩ tf eb tr tl fun s1 vs k1 hz g1 o1 pm => ?_)
  have vl : vs.length = n := by rw [pm.length_eq, List.length_map, Array.length_toList] <;> exact en
  have hI : StrsAre vs (vs.map PyProof.Rows.strOf) := tx_strs vs fun v hv => by
    obtain ⟨e, he, q⟩ := List.mem_map.mp (pm.mem_iff.mp hv)
    obtain ⟨x, tk, h1, _⟩ := g e he
    exact ⟨x, tk, by rw [← q] <;> exact h1⟩
  have pk : (vs.map PyProof.Rows.strOf).Perm (es.toList.map txO) := by
    have q := pm.map PyProof.Rows.strOf
    rw [List.map_map] at q
    refine q.trans (List.Perm.of_eq (List.map_congr_left fun e he => ?_))
    obtain ⟨x, tk, h1, _⟩ := g e he
    show PyProof.Rows.strOf e.2 = txO e
    unfold txO
    rw [h1]
    rfl
  refine wpAny_bind (wpAny_newList ?_ (by rw [vl, sizeLine_eq] <;> omega))
  have hoL : (s1.heap.push (seqObj "list" vs.toArray 0)).get? s1.heap.objs.size = some (seqObj "list" vs.toArray 0) := Heap.get?_push_size _ rfl
  refine wpAny_bind (wpAny_holding (wpAny_call_entry slot_list_sort ⟨_, hoL, rfl⟩ entry_list_sort (list_sort_treeK strKind_oneLt hoL hI.keysOf (fun v₁ v₂ rest e => keyKind_strs (by rw [← e] <;> exact hI)) (by rw [vl] <;> exact few) fun st' hp hs => ⟨_, rfl, ?_⟩) (args_list_sort _)))
  obtain ⟨ys, a1, a2, a3⟩ := sorted_out_str hI hp hs
  obtain ⟨c, hc⟩ := sortedHeap_at (vs := vs) (out := (arrOf st').map (·.2)) hoL
  have pn : ys.Perm (es.toList.map txO) := a2.trans pk
  refine wpAny_pure ⟨_, rfl, hQ _ s1.heap.objs.size _ c ys (fun b u e => ?_) g1 o1 hz hc a1 a3 (pn.nodup_iff.mpr nd) (fun y => pn.mem_iff.trans (mm y).symm) ?_⟩
  · have q := k1 b u e
    have lt := Heap.lt_size q
    show (sortedHeap (s1.heap.push (seqObj "list" vs.toArray 0)) s1.heap.objs.size vs _).get? b = some u
    rw [sortedHeap_old (Nat.ne_of_lt lt) (by rw [size_push'] <;> exact Nat.lt_succ_of_lt lt)]
    exact Heap.get?_push_of_some _ q
  · rw [pn.length_eq, List.length_map, Array.length_toList] <;> exact en
end
section
variable {X : Cx} {a : Expr} {ta : TE} {p p2 q pos : Pos}
/-- sorted(set(a)), a a list of texts -/
def rSoS (K : PySem.W.Frag) (x : V) (H1 : Hp) (Q : VK) : Prop := ∃ (l : Addr) (xs : List Str), x = V.ref l ∧ SqL K H1 l (xs.map V.str) ∧ (xs.length < 4000 ∧ ∀ ys : List Str, ys.Nodup → (∀ y ∈ ys, y ∈ xs) → ys.length < 64) ∧
  ∀ (ys : List Str) (p : Addr), sortedS ys = true → ys.Nodup → (∀ y, y ∈ ys ↔ y ∈ xs) → ys.length < 64 → H1 p = none → Q (.ref p) (upd H1 p (.lst (ys.map V.str)))
theorem nd_le : ∀ (l m : List Str), l.Nodup → (∀ x ∈ l, x ∈ m) → l.length ≤ m.length
  | [], _, _, _ => Nat.zero_le _
  | x :: l, m, h, hs => by
    rw [List.nodup_cons] at h
    have h1 : x ∈ m := hs x List.mem_cons_self
    have h2 := nd_le l (m.erase x) h.2 (fun y hy => (List.mem_erase_of_ne (fun e => h.1 (by rw [← e] <;> exact hy))).mpr (hs y (List.mem_cons_of_mem _ hy)))
    rw [List.length_erase_of_mem h1] at h2
    have h3 := List.length_pos_of_mem h1
    rw [List.length_cons]
    omega
theorem tx_few {w : World} {h : Heap} {a : Addr} {xs : List Str} {n : Nat} (R : TxR w h a (fun y => decide (y ∈ xs)) n) (few : ∀ ys : List Str, ys.Nodup → (∀ y ∈ ys, y ∈ xs) → ys.length < 64) : n < 64 := by
  obtain ⟨o, es, ep, t, _, _, nd, mm, ⟨_, _, en⟩, _⟩ := R
  have h1 := few (es.toList.map txO) nd fun x hx => of_decide_eq_true ((mm x).2 hx)
  rw [List.length_map, Array.length_toList, en] at h1
  exact h1
theorem pe_sortSet {r : V → Hp → VK → Prop} (conv : ∀ x H Q, r x H Q → rSoS X.K x H Q) (hc : X.calm = true) (hg : Gl X "sorted") (hm : X.mg "sorted" = none) (hg2 : Gl X "set") (hm2 : X.mg "set" = none) (ha : PE X a ta)
    (na : starEach [a] X.env = (false, eval a X.env) :: starEach [] X.env := by rfl) : PE X (.Call (.Name "sorted" p) [.Call (.Name "set" p2) [a] [] q] [] pos) (fun σ H Q => ta σ H fun x H1 => r x H1 Q) := by
  refine ⟨fun pins s σ H Q I h => ?_⟩
  refine Call_ (ld_blt I hg hm PyProof.Rows.boot_sorted ?_)
  refine PyProof.Rows.callWith_builtin1 (PyProof.Rows.args_cons ?_ rfl) rfl rfl
  refine Call_ (ld_blt I hg2 hm2 PyProof.Rows.boot_set ?_)
  refine PyProof.Rows.callWith_type1 (PyProof.Rows.args_cons (thn (ha.run pins s σ H _ I h) fun v s1 ⟨x, H1, I1, r1, q1⟩ => PyProof.Rows.args_nil ?_) na) na rfl
  obtain ⟨l, xs, rfl, hq, ⟨few, few2⟩, q1⟩ := conv _ _ _ q1
  cases r1
  obtain ⟨its, rv, pl, hz⟩ := I1.list hq
  refine tx_call (I1.ok.hd hc) pl.isList (xs := xs) (by simpa using rv.strs) (by unfold scanBound <;> omega) fun z tk c R k => PyProof.Rows.args_nil ?_
  have cf := tx_few R few2
  refine tx_sorted (s := { s1 with heap := z, toks := tk }) R (I1.ok.hd hc) (by omega) fun s2 pp out cc ys k2 g2 o2 hp hget a1 a2 a3 a4 a5 => ?_
  have sub : ∀ b u, s1.heap.get? b = some u → s2.heap.get? b = some u := fun b u e => k2 b u (k b u e)
  have hp1 : s1.heap.objs.size ≤ pp := by
    have R2 := R
    obtain ⟨o, es, ep, t, ⟨ho, _⟩, _⟩ := R2
    exact Nat.le_trans (Nat.le_of_lt (Heap.lt_size ho)) hp
  have hn : H1 pp = none := I1.hok.fresh hp1
  have hlen : (ys.map V.str).length ≤ sizeLine := by rw [List.length_map, sizeLine_eq] <;> omega
  have J : Inv X pins σ (upd H1 pp (.lst (ys.map V.str))) { s1 with heap := s2.heap, gens := s2.gens, drawn := s2.drawn, toks := s2.toks } :=
    I1.call (ch := []) (Un.laid sub hp1 hn) (I1.hok.laid sub hp1 ⟨hlen, out.toList, cc, vals_of_strs a1, hget⟩) (by rw [g2] <;> exact I1.bare) (fun _ z => nomatch z)
  have e : s2 = { s1 with heap := s2.heap, gens := s2.gens, drawn := s2.drawn, toks := s2.toks } := by
    cases s2
    cases s1
    cases o2
    rfl
  rw [e]
  exact ⟨.ref pp, _, J, rfl, q1 ys pp a2 a3 (fun y => (a4 y).trans decide_eq_true_iff) (by omega) hn⟩
/-- len(set(a)), a a list of texts -/
def rLeS (K : PySem.W.Frag) (x : V) (H1 : Hp) (Q : VK) : Prop := ∃ (l : Addr) (xs : List Str), x = V.ref l ∧ SqL K H1 l (xs.map V.str) ∧ xs.length < 4000 ∧
  ∀ ys : List Str, ys.Nodup → (∀ y, y ∈ ys ↔ y ∈ xs) → Q (.int ys.length) H1
theorem pe_lenSetT {r : V → Hp → VK → Prop} (conv : ∀ x H Q, r x H Q → rLeS X.K x H Q) (hc : X.calm = true) (hg : Gl X "len") (hm : X.mg "len" = none) (hg2 : Gl X "set") (hm2 : X.mg "set" = none) (ha : PE X a ta)
    (na : starEach [a] X.env = (false, eval a X.env) :: starEach [] X.env := by rfl) : PE X (.Call (.Name "len" p) [.Call (.Name "set" p2) [a] [] q] [] pos) (fun σ H Q => ta σ H fun x H1 => r x H1 Q) := by
  refine ⟨fun pins s σ H Q I h => ?_⟩
  refine Call_ (ld_blt I hg hm PySem.boot_len ?_)
  refine PyProof.Rows.callWith_builtin1 (PyProof.Rows.args_cons ?_ rfl) rfl rfl
  refine Call_ (ld_blt I hg2 hm2 PyProof.Rows.boot_set ?_)
  refine PyProof.Rows.callWith_type1 (PyProof.Rows.args_cons (thn (ha.run pins s σ H _ I h) fun v s1 ⟨x, H1, I1, r1, q1⟩ => PyProof.Rows.args_nil ?_) na) na rfl
  obtain ⟨l, xs, rfl, hq, few, q1⟩ := conv _ _ _ q1
  cases r1
  obtain ⟨its, rv, pl, hz⟩ := I1.list hq
  refine tx_call (I1.ok.hd hc) pl.isList (xs := xs) (by simpa using rv.strs) (by unfold scanBound <;> omega) fun z tk c R k => PyProof.Rows.args_nil ?_
  have I2 : Inv X pins σ H1 { s1 with heap := z, toks := tk } := I1.kept fun b o e => k b o e
  obtain ⟨o, es, ep, t, ⟨ho, hex, hd⟩, g, nd, mm, ⟨eb, tf, en⟩, _⟩ := R
  have q2 := q1 (es.toList.map txO) nd fun y => (mm y).symm.trans decide_eq_true_iff
  rw [List.length_map, Array.length_toList] at q2
  exact call_len_set ho hex hd tf (by have z := fits_of_scanBound eb; rw [sizeLine_eq] at z; omega) ⟨.int es.size, H1, I2.tok _, ⟨_, rfl⟩, q2⟩
end
end TX
end
section
set_option maxRecDepth 100000
/-! sorted(set(xs)), len(set(xs)) as things of the deep tongue. -/
namespace G
open PySem L2 PySem.Spec
open PyProof.Rows hiding St
/-- each text once -/
def ddS : List Str → List Str
  | [] => []
  | x :: r => if x ∈ r then ddS r else x :: ddS r
theorem ddS_mem (y : Str) : ∀ xs : List Str, y ∈ ddS xs ↔ y ∈ xs
  | [] => Iff.rfl
  | x :: r => by
    unfold ddS
    by_cases z : x ∈ r
    · rw [if_pos z, ddS_mem y r, List.mem_cons]
      exact ⟨.inr, fun h => h.elim (fun e => e ▸ z) id⟩
    · rw [if_neg z, List.mem_cons, List.mem_cons, ddS_mem y r]
theorem ddS_nd : ∀ xs : List Str, (ddS xs).Nodup
  | [] => List.nodup_nil
  | x :: r => by
    unfold ddS
    by_cases z : x ∈ r
    · rw [if_pos z]; exact ddS_nd r
    · rw [if_neg z, List.nodup_cons]
      exact ⟨fun h => z ((ddS_mem x r).mp h), ddS_nd r⟩
def sortSetS : D → Option D
  | .lst ds => match strsOf ds with
    | some ss => if ss.length < 4000 ∧ (ddS ss).length < 64 then some (.lst ((sortStr (ddS ss)).map .str)) else none
    | none => none
  | _ => none
def lenSetS : D → Option D
  | .lst ds => match strsOf ds with
    | some ss => if ss.length < 4000 then some (.int (ddS ss).length) else none
    | none => none
  | _ => none
def setPr (n : Str) (f : D → Option D) (nw : Bool) : Pr where
  rcg := fun sc e => match e with
    | .Call (.Name x _) [.Call (.Name y _) [a] [] _] [] _ => if (decide (x = n) && glB sc x && (decide (y = ("set" : Str)) && glB sc y)) = true then some [a] else none
    | _ => none
  sem := sem1 f
  nw := nw
def pSortSet : Pr := setPr "sorted" sortSetS true
def pLenSet : Pr := setPr "len" lenSetS false
@[simp] theorem pSortSet_sem (x : D) : pSortSet.sem [x] = sortSetS x := rfl
@[simp] theorem pLenSet_sem (x : D) : pLenSet.sem [x] = lenSetS x := rfl
theorem set_shape {n : Str} {f : D → Option D} {nw : Bool} {sc : Scope} {e : Expr} {es : List Expr} (h : (setPr n f nw).rcg sc e = some es) : ∃ p pos a q pos2, e = .Call (.Name n p) [.Call (.Name "set" q) [a] [] pos2] [] pos ∧ es = [a] ∧ glB sc n = true ∧ glB sc "set" = true := by
  unfold setPr at h
  dsimp only at h
  split at h
  · rename_i x p y q a pos2 pos
    split at h
    · rename_i hc
      cases h
      simp only [Bool.and_eq_true, decide_eq_true_eq] at hc
      obtain ⟨⟨rfl, g1⟩, rfl, g2⟩ := hc
      exact ⟨p, pos, a, q, pos2, rfl, rfl, g1, g2⟩
    · cases h
  · cases h
theorem pSortSet_ok {C : Cn} (hm : C.mg "sorted" = none) (hms : C.mg "set" = none) : pSortSet.Ok C where
  pe := by
    intro N sc k W X hX e es ts h1 h2 h3
    obtain ⟨p, pos, a, q, pos2, rfl, rfl, g1, g2⟩ := set_shape h1
    have hmX : X.mg "sorted" = none := by rw [hX.cn] at hm; exact hm
    have hmS : X.mg "set" = none := by rw [hX.cn] at hms; exact hms
    have hK : X.K = C.K := by rw [hX.cn]; rfl
    have hg : Gl X "sorted" := glB_gl (by rw [← hX.sc]; exact g1)
    have hgs : Gl X "set" := glB_gl (by rw [← hX.sc]; exact g2)
    obtain ⟨s1, s2⟩ := noStar_cons h3
    match ts, h2 with
    | [te], ⟨h2, _⟩ =>
      refine TX.pe_sortSet (r := fun x H Q => rV C pSortSet [x] H Q) (fun x H Q h => ?_) hX.calm hg hmX hgs hmS h2 (star_no s1)
      obtain ⟨Z, ds, d, hz, ha, hs, q⟩ := h
      obtain ⟨b, rfl, hs⟩ := sem1_of hs
      obtain ⟨v, e, h1⟩ := ha.one
      cases e
      have h1 : Vw C.K Z H b x := h1
      rw [← hK] at h1
      cases b with
      | lst xs =>
        obtain ⟨a1, vs, rfl, g1, g2⟩ := h1.lst
        have hs : (match strsOf xs with
          | some ss => if ss.length < 4000 ∧ (ddS ss).length < 64 then some (D.lst ((sortStr (ddS ss)).map .str)) else none
          | none => none) = some d := hs
        cases e2 : strsOf xs with
        | none => rw [e2] at hs; cases hs
        | some ss =>
          rw [e2] at hs
          dsimp only at hs
          split at hs
          · rename_i hl
            cases hs
            have := strs_of e2
            subst this
            have := g2.strs
            subst this
            refine ⟨a1, ss, rfl, .of g1, ⟨hl.1, fun ys y1 y2 => Nat.lt_of_le_of_lt (TX.nd_le ys (ddS ss) y1 fun y hy => (ddS_mem y ss).mpr (y2 y hy)) hl.2⟩, fun ys p k1 k2 k3 k4 hp => ?_⟩
            have pm : ys.Perm (ddS ss) := (List.perm_ext_iff_of_nodup k2 (ddS_nd ss)).mpr fun y => (k3 y).trans (ddS_mem y ss).symm
            rw [sortStr_of pm k1]
            obtain ⟨Z2, r⟩ := PRes.newL (K := C.K) (nw := true) hz hp (RpL.ofStrs (sortStr (ddS ss)))
            exact q _ _ _ r
          · cases hs
      | _ => cases hs
  nc := by
    intro sc e es h
    obtain ⟨p, pos, a, q, pos2, rfl, rfl, g1, g2⟩ := set_shape h
    rfl
  bl := by intro h; cases h
  pt := by intro h; cases h
theorem pLenSet_ok {C : Cn} (hm : C.mg "len" = none) (hms : C.mg "set" = none) : pLenSet.Ok C where
  pe := by
    intro N sc k W X hX e es ts h1 h2 h3
    obtain ⟨p, pos, a, q, pos2, rfl, rfl, g1, g2⟩ := set_shape h1
    have hmX : X.mg "len" = none := by rw [hX.cn] at hm; exact hm
    have hmS : X.mg "set" = none := by rw [hX.cn] at hms; exact hms
    have hK : X.K = C.K := by rw [hX.cn]; rfl
    have hg : Gl X "len" := glB_gl (by rw [← hX.sc]; exact g1)
    have hgs : Gl X "set" := glB_gl (by rw [← hX.sc]; exact g2)
    obtain ⟨s1, s2⟩ := noStar_cons h3
    match ts, h2 with
    | [te], ⟨h2, _⟩ =>
      refine TX.pe_lenSetT (r := fun x H Q => rV C pLenSet [x] H Q) (fun x H Q h => ?_) hX.calm hg hmX hgs hmS h2 (star_no s1)
      obtain ⟨Z, ds, d, hz, ha, hs, q⟩ := h
      obtain ⟨b, rfl, hs⟩ := sem1_of hs
      obtain ⟨v, e, h1⟩ := ha.one
      cases e
      have h1 : Vw C.K Z H b x := h1
      rw [← hK] at h1
      cases b with
      | lst xs =>
        obtain ⟨a1, vs, rfl, g1, g2⟩ := h1.lst
        have hs : (match strsOf xs with
          | some ss => if ss.length < 4000 then some (D.int (ddS ss).length) else none
          | none => none) = some d := hs
        cases e2 : strsOf xs with
        | none => rw [e2] at hs; cases hs
        | some ss =>
          rw [e2] at hs
          dsimp only at hs
          split at hs
          · rename_i hl
            cases hs
            have := strs_of e2
            subst this
            have := g2.strs
            subst this
            refine ⟨a1, ss, rfl, .of g1, hl, fun ys k2 k3 => ?_⟩
            have pm : ys.Perm (ddS ss) := (List.perm_ext_iff_of_nodup k2 (ddS_nd ss)).mpr fun y => (k3 y).trans (ddS_mem y ss).symm
            rw [pm.length_eq]
            exact q _ _ _ (PRes.same hz rfl)
          · cases hs
      | _ => cases hs
  nc := by
    intro sc e es h
    obtain ⟨p, pos, a, q, pos2, rfl, rfl, g1, g2⟩ := set_shape h
    rfl
  bl := by intro h; cases h
  pt := by intro h; cases h
end G
end
section
set_option maxRecDepth 100000
/-! list(range(..)), tuple(range(..)) as strict things; a.join(xs). -/
namespace G
open PySem L2 PySem.Spec
open PyProof.Rows hiding St
section
variable {X : Cx} {a b : Expr} {ta tb : TE}
def tRgA (ta : TE) : L2.St → Hp → (Int → Int → Hp → Prop) → Prop := fun σ H Qr => ∃ R : V → Hp → Prop, ta σ H R ∧ ∀ x H1, R x H1 → ∃ n, x = .int n ∧ Qr 0 n H1
def tRgB (ta tb : TE) : L2.St → Hp → (Int → Int → Hp → Prop) → Prop := fun σ H Qr => ∃ R : V → V → Hp → Prop, (ta σ H fun x H1 => tb σ H1 fun y H2 => R x y H2) ∧ ∀ x y H2, R x y H2 → ∃ i j, x = .int i ∧ y = .int j ∧ Qr i j H2
theorem prg_A {p pos : Pos} (hg : Gl X "range") (hm : X.mg "range" = none) (ha : PE X a ta) (na : starEach [a] X.env = (false, eval a X.env) :: starEach [] X.env) : PRg X (.Call (.Name "range" p) [a] [] pos) (tRgA ta) := by
  rintro pins s σ H Q I ⟨R, hR, hc⟩
  refine Call_ (ld_blt I hg hm boot_range (PyProof.Rows.callWith_type1 (one_arg ha I hR (fun v s2 x H2 I2 r q => ?_) na) na))
  obtain ⟨n, rfl, q2⟩ := hc x H2 q
  obtain ⟨t, rfl⟩ := r
  refine call_range_1 ⟨_, 0, n, _, _, _, H2, rfl, IsRange.new _ _ _ _ _ _ _, ?_, q2⟩
  exact I2.kept fun b u e => Heap.get?_push_of_some _ e
theorem prg_B {p pos : Pos} (hg : Gl X "range") (hm : X.mg "range" = none) (ha : PE X a ta) (hb : PE X b tb) (na : starEach [a, b] X.env = (false, eval a X.env) :: starEach [b] X.env)
    (nb : starEach [b] X.env = (false, eval b X.env) :: starEach [] X.env) (hp : (backTo pos (starEach [b] X.env)).any (·.1) = false) : PRg X (.Call (.Name "range" p) [a, b] [] pos) (tRgB ta tb) := by
  rintro pins s σ H Q I ⟨R, hR, hc⟩
  refine Call_ (ld_blt I hg hm boot_range (PyProof.Rows.callWith_type1 (args_cons (thn (ha.run pins s σ H _ I hR) fun v s1 ⟨x, H1, I1, r1, q1⟩ => one_arg hb I1 q1 (fun u s2 y H2 I2 r2 q => ?_) nb) na) na hp))
  obtain ⟨i, j, rfl, rfl, q2⟩ := hc x y H2 q
  obtain ⟨t, rfl⟩ := r1
  obtain ⟨t', rfl⟩ := r2
  refine call_range_2 ⟨_, i, j, _, _, _, H2, rfl, IsRange.new _ _ _ _ _ _ _, ?_, q2⟩
  exact I2.kept fun b u e => Heap.get?_push_of_some _ e
end
def rgA (f : List D → D) : List D → Option D
  | [.int n] => if n.natAbs ≤ 16777216 then some (f (rangeL 0 n.toNat)) else none
  | _ => none
def rgB (f : List D → D) : List D → Option D
  | [.int i, .int j] => if i.natAbs ≤ 8388608 ∧ j.natAbs ≤ 8388608 then some (f (rangeL i (j - i).toNat)) else none
  | _ => none
def rgPr (n : Str) (k : Nat) (f : List D → Option D) (nw : Bool) : Pr where
  rcg := fun sc e => match e with
    | .Call (.Name x _) [.Call (.Name y _) es [] _] [] _ => if (decide (x = n) && glB sc x && (decide (y = ("range" : Str)) && glB sc y) && decide (es.length = k)) = true then some es else none
    | _ => none
  sem := f
  nw := nw
def pLRg1 : Pr := rgPr "list" 1 (rgA .lst) true
def pLRg2 : Pr := rgPr "list" 2 (rgB .lst) true
def pTRg1 : Pr := rgPr "tuple" 1 (rgA .tup) false
def pTRg2 : Pr := rgPr "tuple" 2 (rgB .tup) false
theorem rg_shape {n : Str} {k : Nat} {f : List D → Option D} {nw : Bool} {sc : Scope} {e : Expr} {es : List Expr} (h : (rgPr n k f nw).rcg sc e = some es) : ∃ p pos q pos2, e = .Call (.Name n p) [.Call (.Name "range" q) es [] pos2] [] pos ∧ es.length = k ∧ glB sc n = true ∧ glB sc "range" = true := by
  unfold rgPr at h
  dsimp only at h
  split at h
  · rename_i x p y q es2 pos2 pos
    split at h
    · rename_i hc
      cases h
      simp only [Bool.and_eq_true, decide_eq_true_eq] at hc
      obtain ⟨⟨⟨rfl, g1⟩, rfl, g2⟩, g3⟩ := hc
      exact ⟨p, pos, q, pos2, rfl, g3, g1, g2⟩
    · cases h
  · cases h
theorem rg_ints (lo : Int) (n : Nat) : rangeL lo n = ((List.range n).map fun i => lo + (i : Nat)).map .int := by
  rw [List.map_map]
  rfl
theorem rgV_ints (a b : Int) : rgV a b = ((List.range (b - a).toNat).map fun i => a + (i : Nat)).map V.int := by
  unfold rgV
  rw [List.map_map]
  rfl
theorem rgA_of {f : List D → D} {ds : List D} {d : D} (h : rgA f ds = some d) : ∃ n : Int, ds = [.int n] ∧ n.natAbs ≤ 16777216 ∧ d = f (rangeL 0 n.toNat) := by
  match ds, h with
  | [.int n], h =>
    have h : (if n.natAbs ≤ 16777216 then some (f (rangeL 0 n.toNat)) else none) = some d := h
    split at h
    · rename_i hl
      cases h
      exact ⟨n, rfl, hl, rfl⟩
    · cases h
theorem rgB_of {f : List D → D} {ds : List D} {d : D} (h : rgB f ds = some d) : ∃ i j : Int, ds = [.int i, .int j] ∧ (i.natAbs ≤ 8388608 ∧ j.natAbs ≤ 8388608) ∧ d = f (rangeL i (j - i).toNat) := by
  match ds, h with
  | [.int i, .int j], h =>
    have h : (if i.natAbs ≤ 8388608 ∧ j.natAbs ≤ 8388608 then some (f (rangeL i (j - i).toNat)) else none) = some d := h
    split at h
    · rename_i hl
      cases h
      exact ⟨i, j, rfl, hl, rfl⟩
    · cases h
theorem pLRg1_ok {C : Cn} (hm : C.mg "list" = none) (hmr : C.mg "range" = none) : pLRg1.Ok C where
  pe := by
    intro N sc k W X hX e es ts h1 h2 h3
    obtain ⟨p, pos, q, pos2, rfl, hl, g1, g2⟩ := rg_shape h1
    have hmX : X.mg "list" = none := by rw [hX.cn] at hm; exact hm
    have hmR : X.mg "range" = none := by rw [hX.cn] at hmr; exact hmr
    have hg : Gl X "list" := glB_gl (by rw [← hX.sc]; exact g1)
    have hgr : Gl X "range" := glB_gl (by rw [← hX.sc]; exact g2)
    match es, ts, h2, hl with
    | [a], [te], ⟨h2, _⟩, _ =>
      obtain ⟨s1, s2⟩ := noStar_cons h3
      refine ⟨fun pins s σ H Q I h => (pe_listRg hX.calm hg hmX (prg_A hgr hmR h2 (star_no s1))).run pins s σ H Q I ⟨_, h, fun x H1 hr => ?_⟩⟩
      obtain ⟨Z, ds, d, hz, ha, hs, q⟩ := hr
      obtain ⟨n, rfl, hn, rfl⟩ := rgA_of hs
      obtain ⟨v, e, h1⟩ := ha.one
      cases e
      have h1 : Vw C.K Z H1 (.int n) x := h1
      refine ⟨n, h1.int, ⟨by omega, by omega, by omega, by omega, by omega⟩, fun l hl => ?_⟩
      rw [rgV_ints]
      obtain ⟨Z2, r⟩ := PRes.newL (K := C.K) (nw := true) hz hl (RpL.ofInts ((List.range (n - 0).toNat).map fun i => 0 + (i : Nat)))
      refine q _ _ Z2 ?_
      rw [rg_ints, show n.toNat = (n - 0).toNat by rw [Int.sub_zero]]
      exact r
  nc := by
    intro sc e es h
    obtain ⟨p, pos, q, pos2, rfl, _⟩ := rg_shape h
    rfl
  bl := by intro h; cases h
  pt := by intro h; cases h
theorem pLRg2_ok {C : Cn} (hm : C.mg "list" = none) (hmr : C.mg "range" = none) : pLRg2.Ok C where
  pe := by
    intro N sc k W X hX e es ts h1 h2 h3
    obtain ⟨p, pos, q, pos2, rfl, hl, g1, g2⟩ := rg_shape h1
    have hmX : X.mg "list" = none := by rw [hX.cn] at hm; exact hm
    have hmR : X.mg "range" = none := by rw [hX.cn] at hmr; exact hmr
    have hg : Gl X "list" := glB_gl (by rw [← hX.sc]; exact g1)
    have hgr : Gl X "range" := glB_gl (by rw [← hX.sc]; exact g2)
    match es, ts, h2, hl with
    | [a, b], [ta, tb], ⟨h2, h2b, _⟩, _ =>
      obtain ⟨s1, s2⟩ := noStar_cons h3
      obtain ⟨s3, _⟩ := noStar_cons s2
      refine ⟨fun pins s σ H Q I h => (pe_listRg hX.calm hg hmX (prg_B hgr hmR h2 h2b (star_no s1) (star_no s3) (by rw [star_no s3]; rfl))).run pins s σ H Q I ⟨_, h, fun x y H1 hr => ?_⟩⟩
      obtain ⟨Z, ds, d, hz, ha, hs, q⟩ := hr
      obtain ⟨i, j, rfl, hn, rfl⟩ := rgB_of hs
      obtain ⟨v, w, e, h1, h2⟩ := ha.two
      cases e
      have h1 : Vw C.K Z H1 (.int i) x := h1
      have h2 : Vw C.K Z H1 (.int j) y := h2
      refine ⟨i, j, h1.int, h2.int, ⟨by omega, by omega, by omega, by omega, by omega⟩, fun l hl => ?_⟩
      rw [rgV_ints]
      obtain ⟨Z2, r⟩ := PRes.newL (K := C.K) (nw := true) hz hl (RpL.ofInts ((List.range (j - i).toNat).map fun k => i + (k : Nat)))
      refine q _ _ Z2 ?_
      rw [rg_ints]
      exact r
  nc := by
    intro sc e es h
    obtain ⟨p, pos, q, pos2, rfl, _⟩ := rg_shape h
    rfl
  bl := by intro h; cases h
  pt := by intro h; cases h
theorem pe_tupRgX {X : Cx} {e : Expr} {te : L2.St → Hp → (Int → Int → Hp → Prop) → Prop} {p pos : Pos} (hc : X.calm = true) (hg : Gl X "tuple") (hm : X.mg "tuple" = none) (he : PRg X e te) (na : starEach [e] X.env = (false, eval e X.env) :: starEach [] X.env := by rfl) :
    PE X (.Call (.Name "tuple" p) [e] [] pos) (fun σ H Q => te σ H fun a b H1 => RgOk a b ∧ newX H1 Q (rgV a b)) := by
  refine ⟨fun pins s σ H Q I h => ?_⟩
  refine Call_ (ld_blt I hg hm boot_tuple (PyProof.Rows.callWith_type1 (args_cons (thn (he pins s σ H _ I h) fun x s1 ⟨r, a, b, t, u, v, H1, ex, hr, I1, ok, q⟩ => args_nil ?_) na) na))
  subst ex
  obtain ⟨b1, b2, b3, b4, b5⟩ := ok
  refine call_tuple_range (n := (b - a).toNat) (I1.ok.hd hc) hr (small_one b1 b2 b3 b4) (rangeSize_nat a b) b5 fun h' tk acc hk hi => ?_
  have I2 : Inv X pins σ H1 { s1 with heap := h', toks := tk } := I1.kept hk
  have z := lay_tup (t' := tk) I2 (vals_rg hi) (by rw [rgV_length, sizeLine_eq]; omega) q
  rw [Array.toArray_toList] at z
  exact z
theorem pTRg1_ok {C : Cn} (hm : C.mg "tuple" = none) (hmr : C.mg "range" = none) : pTRg1.Ok C where
  pe := by
    intro N sc k W X hX e es ts h1 h2 h3
    obtain ⟨p, pos, q, pos2, rfl, hl, g1, g2⟩ := rg_shape h1
    have hmX : X.mg "tuple" = none := by rw [hX.cn] at hm; exact hm
    have hmR : X.mg "range" = none := by rw [hX.cn] at hmr; exact hmr
    have hg : Gl X "tuple" := glB_gl (by rw [← hX.sc]; exact g1)
    have hgr : Gl X "range" := glB_gl (by rw [← hX.sc]; exact g2)
    match es, ts, h2, hl with
    | [a], [te], ⟨h2, _⟩, _ =>
      obtain ⟨s1, s2⟩ := noStar_cons h3
      refine ⟨fun pins s σ H Q I h => (pe_tupRgX hX.calm hg hmX (prg_A hgr hmR h2 (star_no s1))).run pins s σ H Q I ⟨_, h, fun x H1 hr => ?_⟩⟩
      obtain ⟨Z, ds, d, hz, ha, hs, q⟩ := hr
      obtain ⟨n, rfl, hn, rfl⟩ := rgA_of hs
      obtain ⟨v, e, h1⟩ := ha.one
      cases e
      have h1 : Vw C.K Z H1 (.int n) x := h1
      refine ⟨n, h1.int, ⟨by omega, by omega, by omega, by omega, by omega⟩, fun l o hl hd => ?_⟩
      rw [rgV_ints]
      have r := PRes.newT (K := C.K) hz hl hd (RpL.ofInts ((List.range (n - 0).toNat).map fun i => 0 + (i : Nat)))
      refine q _ _ Z ?_
      rw [rg_ints, show n.toNat = (n - 0).toNat by rw [Int.sub_zero]]
      exact r
  nc := by
    intro sc e es h
    obtain ⟨p, pos, q, pos2, rfl, _⟩ := rg_shape h
    rfl
  bl := by intro h; cases h
  pt := by intro h; cases h
/-! ### a.join(xs) -/
def isStrD : D → Bool
  | .str _ => true
  | _ => false
theorem tys_str {C : Cn} {X : Cx} {Z : Addr → Prop} {d : D} {x : V} {H : Hp} (h : isStrD d = true) (hv : Vw C.K Z H d x) : Tys X "str" x H := fun pins σ s v I r => by
  cases d with
  | str z =>
    obtain rfl : x = .str z := hv.elim id fun ⟨a, _, t⟩ => by cases t
    obtain ⟨t, rfl⟩ := r
    exact ⟨PySem.typeIs_str _ _ _, fun _ e => nomatch e⟩
  | _ => cases h
def joinL (a : Str) (ds : List D) : Option D := match strsOf ds with
  | some ys => if (ys.map (·.length)).sum + ys.length * a.length ≤ 16777216 then some (.str (Txt.join a ys)) else none
  | none => none
def joinS : D → List D → Option D
  | .str a, [.lst ds] => joinL a ds
  | .str a, [.tup ds] => joinL a ds
  | _, _ => none
def mJoin : Mt := bmMt "join" 1 isStrD joinS
theorem joinL_of {a : Str} {ds : List D} {r : D} (h : joinL a ds = some r) : ∃ ys : List Str, ds = ys.map .str ∧ (ys.map (·.length)).sum + ys.length * a.length ≤ 16777216 ∧ r = .str (Txt.join a ys) := by
  unfold joinL at h
  cases e : strsOf ds with
  | none => rw [e] at h; cases h
  | some ys =>
    rw [e] at h
    dsimp only at h
    split at h
    · rename_i hl
      cases h
      exact ⟨ys, strs_of e, hl, rfl⟩
    · cases h
theorem joinS_of {d : D} {ds : List D} {r : D} (h : joinS d ds = some r) : ∃ (a : Str) (e : D) (zs : List D), d = .str a ∧ ds = [e] ∧ (e = .lst zs ∨ e = .tup zs) ∧ joinL a zs = some r := by
  match d, ds, h with
  | .str a, [.lst zs], h => exact ⟨a, _, zs, rfl, rfl, .inl rfl, h⟩
  | .str a, [.tup zs], h => exact ⟨a, _, zs, rfl, rfl, .inr rfl, h⟩
theorem mJoin_ok {C : Cn} : mJoin.Ok C := bmMt_ok PySem.F.plainAttrs_str PySem.F.slot_str_join PySem.F.type_str_join (fun {N sc k W X} hX => by
    intro pins s σ H x xs v us Q I rx rxs h
    have hK : X.K = C.K := by rw [hX.cn]; rfl
    obtain ⟨Z, d, ds, r, hz, hv, ha, hs, q⟩ := h
    obtain ⟨a, e, zs, rfl, rfl, he, hj⟩ := joinS_of hs
    obtain ⟨ys, rfl, hl, rfl⟩ := joinL_of hj
    obtain ⟨w, rfl, h1⟩ := ha.one
    have h1 : Vw C.K Z H e w := h1
    obtain rfl : x = .str a := hv.elim id fun ⟨a, _, t⟩ => by cases t
    refine mt_join pins s σ H _ _ v us Q I rx rxs ?_
    rw [hK]
    rcases he with rfl | rfl
    · obtain ⟨a1, vs, rfl, g1, g2⟩ := h1.lst
      have := g2.strs
      subst this
      exact ⟨a, a1, ys, rfl, rfl, .inl (.of g1), hl, q _ _ _ (PRes.same hz rfl)⟩
    · obtain ⟨a1, vs, rfl, g1, g2⟩ := h1.tup
      have := g2.strs
      subst this
      exact ⟨a, a1, ys, rfl, rfl, .inr g1, hl, q _ _ _ (PRes.same hz rfl)⟩) fun h hv _ => tys_str h hv
end G
end
section
set_option maxRecDepth 100000
/-! list(z), z a text: its signs. -/
namespace G
open PySem L2 PySem.Spec
open PyProof.Rows hiding St
theorem vals_signs {z : Str} {acc : Array Value} (h : ItemsOf (SignAt z) acc z.cps.size) : Vals (z.cps.toList.map fun c => V.str ⟨#[c]⟩) acc.toList := by
  have e : acc.toList.length = z.cps.size := by rw [Array.length_toList]; exact h.1
  have h2 : ∀ j u, acc.toList[j]? = some u → RelV (V.str ⟨#[z.cps.toList.getD j 0]⟩) u := fun j u hj => by
    have hj2 := hj
    rw [Array.getElem?_toList] at hj2
    obtain ⟨c, t, hc, rfl⟩ := h.2 j u hj2
    rw [← Array.getElem?_toList] at hc
    rw [List.getD_eq_getElem?_getD, hc]
    exact ⟨t, rfl⟩
  have v := vals_of_get acc.toList _ h2
  rw [e] at v
  have e2 : ((List.range z.cps.size).map fun j => V.str ⟨#[z.cps.toList.getD j 0]⟩) = z.cps.toList.map fun c => V.str ⟨#[c]⟩ := by
    apply List.ext_getElem
    · simp
    · intro i h1 h3
      have hi : i < z.cps.toList.length := by simpa using h3
      rw [List.getElem_map, List.getElem_map, List.getElem_range, List.getD_eq_getElem?_getD, List.getElem?_eq_getElem hi]
      rfl
  rw [e2] at v
  exact v
theorem cr_listStr {X : Cx} (hc : X.calm = true) : CallR X (.type "list") (fun xs H Q => ∃ z : Str, xs = [.str z] ∧ z.length ≤ 16777216 ∧ ∀ l, H l = none → Q (.ref l) (upd H l (.lst (z.cps.toList.map fun c => V.str ⟨#[c]⟩)))) := by
  intro pins s σ H xs us Q I r h
  obtain ⟨z, rfl, hz, q⟩ := h
  obtain ⟨u, rfl, ru⟩ := r.one
  obtain ⟨t, rfl⟩ := ru
  have hz2 : z.cps.size ≤ 16777216 := hz
  refine call_list_str (I.ok.hd hc) z t (fun h' tk acc c' hk he hi => ?_) (by rw [sizeLine_eq]; exact hz2)
  refine ⟨.ref s.heap.objs.size, upd H s.heap.objs.size (.lst (z.cps.toList.map fun c => V.str ⟨#[c]⟩)), I.laid hk (Nat.le_refl _) (show ObjOk X.prog X.w _ _ _ (.lst _) from ⟨?_, acc.toList, c', vals_signs hi, ?_⟩), rfl, q _ (I.hok.fresh (Nat.le_refl _))⟩
  · rw [List.length_map, sizeLine_eq, Array.length_toList]; exact hz2
  · rw [Array.toArray_toList]; exact he
def listStrS : D → Option D
  | .str z => if z.length ≤ 16777216 then some (.lst (charsD z)) else none
  | _ => none
def pListS : Pr := cbPr "list" (sem1 listStrS) true
@[simp] theorem pListS_sem (x : D) : pListS.sem [x] = listStrS x := rfl
theorem RpL.signs {K : PySem.W.Frag} {Z : Addr → Prop} {H : Hp} (z : Str) : RpL K Z H (charsD z) (z.cps.toList.map fun c => V.str ⟨#[c]⟩) := by
  have h := RpL.ofStrs (K := K) (Z := Z) (H := H) (z.cps.toList.map fun c => (⟨#[c]⟩ : Str))
  rw [List.map_map, List.map_map] at h
  exact h
theorem pListS_ok {C : Cn} (hm : C.mg "list" = none) : pListS.Ok C := cbPr_ok PyProof.Rows.boot_list (.inr ⟨_, rfl⟩) hm fun {N sc k W X} hX => by
  have hK : X.K = C.K := by rw [hX.cn]; rfl
  refine CallR.weak (cr_listStr hX.calm) fun xs H Q => ?_
  rintro ⟨Z, ds, d, hz, ha, hs, q⟩
  obtain ⟨a, rfl, hs⟩ := sem1_of hs
  obtain ⟨v, rfl, h1⟩ := ha.one
  have h1 : Vw C.K Z H a v := h1
  cases a with
  | str z =>
    have hs : (if z.length ≤ 16777216 then some (D.lst (charsD z)) else none) = some d := hs
    split at hs
    · rename_i hl
      cases hs
      obtain rfl : v = .str z := h1.elim id fun ⟨a, _, t⟩ => by cases t
      refine ⟨z, rfl, hl, fun l hl => ?_⟩
      obtain ⟨Z2, r⟩ := PRes.newL (K := C.K) (nw := true) hz hl (RpL.signs z)
      exact q _ _ _ r
    · cases hs
  | _ => cases hs
end G
end
section
set_option maxRecDepth 100000
set_option maxHeartbeats 0
namespace T
open PySem G
abbrev top (i : Nat) : Stmt := PySem.Challenge.pw_sidedeeds_k26_whole_who_reads_and_writes.main.body.getD i (.Pass ⟨0, 0, 0, 0⟩)
abbrev st_law_draw : Stmt := top 19
def fi_law_draw : FI := ⟨["_law_script", "_law_town", "_law_many", "_law_k", "_law_cell", "_law_number", "_law_more"], L2.defScope st_law_draw, [1], false⟩
def c_law_draw : CSs := (.cons (.app 1 (.pr (kPr (.int 0)) .nil)) (.cons (.asg (.name 3) (.pr pLen (.cons (.var 1) .nil))) (.cons (.asg (.name 4) (.pr (kPr (.int 0)) .nil)) (.cons (.iff (.var 0) (.cons (.asg (.name 4) (.pr pIx (.cons (.var 0) (.cons (.pr pMod (.cons (.var 3) (.cons (.pr pLen (.cons (.var 0) .nil)) .nil))) .nil)))) .nil) .nil [.fr, .ow, .fr, .fr, .fr, .un, .un]) (.cons (.asg (.name 5) (.pr pMod (.cons (.pr pAdd (.cons (.var 4) (.cons (.pr pMul (.cons (.pr (kPr (.int 104729)) .nil) (.cons (.var 3) .nil))) .nil))) (.cons (.pr (kPr (.int 4294967291)) .nil) .nil)))) (.cons (.asg (.name 5) (.pr pMod (.cons (.pr pMul (.cons (.pr pMod (.cons (.pr pMul (.cons (.var 5) (.cons (.var 5) .nil))) (.cons (.pr (kPr (.int 4294967279)) .nil) .nil))) (.cons (.pr (kPr (.int 48271)) .nil) .nil))) (.cons (.pr (kPr (.int 4294967291)) .nil) .nil)))) (.cons (.asg (.name 6) (.pr pMod (.cons (.pr pMul (.cons (.pr pMod (.cons (.pr pMul (.cons (.var 5) (.cons (.var 5) .nil))) (.cons (.pr (kPr (.int 4294967279)) .nil) .nil))) (.cons (.pr (kPr (.int 69621)) .nil) .nil))) (.cons (.pr (kPr (.int 4294967291)) .nil) .nil)))) (.cons (.ret (.pr pMod (.cons (.pr pAdd (.cons (.pr pMul (.cons (.pr pDiv (.cons (.var 5) (.cons (.pr (kPr (.int 64)) .nil) .nil))) (.cons (.pr (kPr (.int 67108864)) .nil) .nil))) (.cons (.pr pDiv (.cons (.var 6) (.cons (.pr (kPr (.int 64)) .nil) .nil))) .nil))) (.cons (.var 2) .nil)))) .nil))))))))
def f_law_draw : Fn := fnOf "_law_draw" fi_law_draw [false, true, false] c_law_draw
theorem k_law_draw : ckF fi_law_draw ["_law_script", "_law_town", "_law_many"] [false, true, false] c_law_draw (L2.defBody st_law_draw) = true := by decide +kernel
abbrev st_law_pick : Stmt := top 20
def fi_law_pick : FI := ⟨["_law_script", "_law_town", "_law_some"], L2.defScope st_law_pick, [1], false⟩
def c_law_pick : CSs := (.cons (.ret (.pr pIx (.cons (.var 2) (.cons (.call f_law_draw (.val (.var 0) (.lent 1 (.val (.pr pLen (.cons (.var 2) .nil)) .nil)))) .nil)))) .nil)
def f_law_pick : Fn := fnOf "_law_pick" fi_law_pick [false, true, false] c_law_pick
theorem k_law_pick : ckF fi_law_pick ["_law_script", "_law_town", "_law_some"] [false, true, false] c_law_pick (L2.defBody st_law_pick) = true := by decide +kernel
abbrev st_law_mixed : Stmt := top 22
def fi_law_mixed : FI := ⟨["_law_script", "_law_town", "_law_row_here", "_law_left", "_law_got"], L2.defScope st_law_mixed, [1], true⟩
def b_law_mixed_1 : CSs := (.cons (.app 4 (.pop 3 (.cons (.call f_law_draw (.val (.var 0) (.lent 1 (.val (.pr pLen (.cons (.var 3) .nil)) .nil)))) .nil))) .nil)
def c_law_mixed : CSs := (.cons (.par [(3, true), (4, true)] (.cons (.pr pList (.cons (.var 2) .nil)) (.cons (.pr pLst .nil) .nil))) (.cons (.whl (.var 3) b_law_mixed_1 [.fr, .ow, .fr, .ow, .ow]) (.cons (.ret (.var 4)) .nil)))
def f_law_mixed : Fn := fnOf "_law_mixed" fi_law_mixed [false, true, false] c_law_mixed
theorem k_law_mixed : ckF fi_law_mixed ["_law_script", "_law_town", "_law_row_here"] [false, true, false] c_law_mixed (L2.defBody st_law_mixed) = true := by decide +kernel
abbrev st_law_form : Stmt := top 21
def fi_law_form : FI := ⟨["_law_script", "_law_town", "_law_cells", "_law_terms", "_law_thin", "_law_cell", "_law_many"], L2.defScope st_law_form, [1], false⟩
def b_law_form_1 : CSs := (.cons (.iff (.pr pEq (.cons (.call f_law_draw (.val (.var 0) (.lent 1 (.val (.var 4) .nil)))) (.cons (.pr (kPr (.int 0)) .nil) .nil))) (.cons (.asg (.name 6) (.call f_law_pick (.val (.var 0) (.lent 1 (.val (.pr pLst (.cons (.pr (kPr (.int 1)) .nil) (.cons (.pr (kPr (.int 1)) .nil) (.cons (.pr pNeg (.cons (.pr (kPr (.int 1)) .nil) .nil)) (.cons (.pr (kPr (.int 9)) .nil) (.cons (.pr pNeg (.cons (.pr (kPr (.int 9)) .nil) .nil)) (.cons (.pr pAdd (.cons (.pr (kPr (.int 1)) .nil) (.cons (.call f_law_draw (.val (.var 0) (.lent 1 (.val (.pr (kPr (.int 8)) .nil) .nil)))) .nil))) .nil))))))) .nil))))) (.cons (.asg (.name 3) (.pr pAdd (.cons (.var 3) (.cons (.pr pTup (.cons (.pr pTup (.cons (.var 5) (.cons (.var 6) .nil))) .nil)) .nil)))) .nil)) .nil [.fr, .ow, .fr, .fr, .fr, .fr, .un]) .nil)
def c_law_form : CSs := (.cons (.par [(3, false), (4, false)] (.cons (.pr pTup .nil) (.cons (.call f_law_pick (.val (.var 0) (.lent 1 (.val (.pr pLst (.cons (.pr (kPr (.int 2)) .nil) (.cons (.pr (kPr (.int 6)) .nil) (.cons (.pr (kPr (.int 12)) .nil) (.cons (.pr (kPr (.int 30)) .nil) .nil))))) .nil)))) .nil))) (.cons (.for_ iSeq (.cons (.var 2) .nil) (.name 5) b_law_form_1 [.fr, .ow, .fr, .fr, .fr, .un, .un]) (.cons (.ret (.pr pTup (.cons (.call f_law_pick (.val (.var 0) (.lent 1 (.val (.pr pLst (.cons (.pr (kPr (.int 0)) .nil) (.cons (.pr (kPr (.int 0)) .nil) (.cons (.pr (kPr (.int 1)) .nil) (.cons (.pr (kPr (.int 99)) .nil) (.cons (.pr pNeg (.cons (.pr (kPr (.int 99)) .nil) .nil)) (.cons (.pr pSub (.cons (.call f_law_draw (.val (.var 0) (.lent 1 (.val (.pr (kPr (.int 199)) .nil) .nil)))) (.cons (.pr (kPr (.int 99)) .nil) .nil))) .nil))))))) .nil)))) (.cons (.var 3) .nil)))) .nil)))
def f_law_form : Fn := fnOf "_law_form" fi_law_form [false, true, false] c_law_form
theorem k_law_form : ckF fi_law_form ["_law_script", "_law_town", "_law_cells"] [false, true, false] c_law_form (L2.defBody st_law_form) = true := by decide +kernel
abbrev st_law_row : Stmt := top 23
def fi_law_row : FI := ⟨["_law_script", "_law_town", "_law_most", "_law_cells", "_law_names", "_law_row_here", "_law_k", "_law_wide", "_law_some", "_law_parts", "_law_j", "_law_cell"], L2.defScope st_law_row, [1], false⟩
def b_law_row_1 : CSs := (.cons (.asg (.name 7) (.call f_law_pick (.val (.var 0) (.lent 1 (.val (.pr pLst (.cons (.pr (kPr (.int 1)) .nil) (.cons (.pr (kPr (.int 1)) .nil) (.cons (.pr (kPr (.int 1)) .nil) (.cons (.pr (kPr (.int 1)) .nil) (.cons (.pr (kPr (.int 2)) .nil) (.cons (.pr (kPr (.int 3)) .nil) (.cons (.pr (kPr (.int 4)) .nil) .nil)))))))) .nil))))) (.cons (.asg (.name 8) (.pr pDict (.cons (.comp iRng1 (.cons (.var 7) .nil) (.name 10) .nil (.pr pTup (.cons (.call f_law_pick (.val (.var 0) (.lent 1 (.val (.var 3) .nil)))) (.cons (.pr (kPr (.int 0)) .nil) .nil))) [10]) .nil))) (.cons (.asg (.name 9) (.pr pTuple (.cons (.comp iSeq (.cons (.pr pSorted (.cons (.var 8) .nil)) .nil) (.name 11) .nil (.pr pTup (.cons (.var 11) (.cons (.call f_law_form (.val (.var 0) (.lent 1 (.val (.var 3) .nil)))) .nil))) [11]) .nil))) (.cons (.asg (.name 5) (.pr pAdd (.cons (.var 5) (.cons (.pr pTup (.cons (.pr pTup (.cons (.pr pIx (.cons (.var 4) (.cons (.var 6) .nil))) (.cons (.pr pAdd (.cons (.pr (kPr (.int 1)) .nil) (.cons (.call f_law_draw (.val (.var 0) (.lent 1 (.val (.pr (kPr (.int 9)) .nil) .nil)))) .nil))) (.cons (.var 9) .nil)))) .nil)) .nil)))) .nil))))
def c_law_row : CSs := (.cons (.asg (.name 3) (.call f_law_pick (.val (.var 0) (.lent 1 (.val (.pr pLst (.cons (.pr (kPr (.str "ab")) .nil) (.cons (.pr (kPr (.str "cdef")) .nil) (.cons (.pr (kPr (.str "abcdefgh")) .nil) (.cons (.pr (kPr (.str "abcdefgh")) .nil) (.cons (.pr (kPr (.str "abcdefgh")) .nil) .nil)))))) .nil))))) (.cons (.asg (.name 4) (.call f_law_mixed (.val (.var 0) (.lent 1 (.val (.pr pLst (.cons (.pr (kPr (.str "a")) .nil) (.cons (.pr (kPr (.str "b")) .nil) (.cons (.pr (kPr (.str "bb")) .nil) (.cons (.pr (kPr (.str "c")) .nil) (.cons (.pr (kPr (.str "ft")) .nil) (.cons (.pr (kPr (.str "hed")) .nil) (.cons (.pr (kPr (.str "j")) .nil) (.cons (.pr (kPr (.str "mlsp")) .nil) (.cons (.pr (kPr (.str "q")) .nil) (.cons (.pr (kPr (.str "uvwy")) .nil) (.cons (.pr (kPr (.str "x")) .nil) (.cons (.pr (kPr (.str "zzzz")) .nil) .nil))))))))))))) .nil))))) (.cons (.asg (.name 5) (.pr pTup .nil)) (.cons (.for_ iRng1 (.cons (.call f_law_draw (.val (.var 0) (.lent 1 (.val (.pr pAdd (.cons (.var 2) (.cons (.pr (kPr (.int 1)) .nil) .nil))) .nil)))) .nil) (.name 6) b_law_row_1 [.fr, .ow, .fr, .fr, .fr, .fr, .un, .un, .un, .un, .un, .un]) (.cons (.ret (.var 5)) .nil)))))
def f_law_row : Fn := fnOf "_law_row" fi_law_row [false, true, false] c_law_row
theorem k_law_row : ckF fi_law_row ["_law_script", "_law_town", "_law_most"] [false, true, false] c_law_row (L2.defBody st_law_row) = true := by decide +kernel
abbrev st_law_store : Stmt := top 24
def fi_law_store : FI := ⟨["_law_script", "_law_town", "_law_got", "_law_cell", "_law_worth"], L2.defScope st_law_store, [1], false⟩
def b_law_store_1 : CSs := (.cons (.asg (.name 4) (.call f_law_pick (.val (.var 0) (.lent 1 (.val (.pr pLst (.cons (.pr (kPr (.int 0)) .nil) (.cons (.pr (kPr (.int 0)) .nil) (.cons (.pr (kPr (.int 1)) .nil) (.cons (.pr pNeg (.cons (.pr (kPr (.int 1)) .nil) .nil)) (.cons (.pr (kPr (.int 5)) .nil) (.cons (.pr (kPr (.int 1000)) .nil) (.cons (.pr pNeg (.cons (.pr (kPr (.int 77)) .nil) .nil)) .nil)))))))) .nil))))) (.cons (.asg (.name 2) (.pr pAdd (.cons (.var 2) (.cons (.ife (.pr pNe (.cons (.var 4) (.cons (.pr (kPr (.int 0)) .nil) .nil))) (.pr pTup (.cons (.pr pTup (.cons (.var 3) (.cons (.var 4) .nil))) .nil)) (.pr pTup .nil)) .nil)))) .nil))
def c_law_store : CSs := (.cons (.asg (.name 2) (.pr pTup .nil)) (.cons (.for_ iSeq (.cons (.pr (kPr (.str "abcdefgh")) .nil) .nil) (.name 3) b_law_store_1 [.fr, .ow, .fr, .un, .un]) (.cons (.ret (.var 2)) .nil)))
def f_law_store : Fn := fnOf "_law_store" fi_law_store [false, true] c_law_store
theorem k_law_store : ckF fi_law_store ["_law_script", "_law_town"] [false, true] c_law_store (L2.defBody st_law_store) = true := by decide +kernel
abbrev st_cells_in : Stmt := top 4
def fi_cells_in : FI := ⟨["form", "cell", "many"], L2.defScope st_cells_in, [], false⟩
def c_cells_in : CSs := (.cons (.ret (.pr pTuple (.cons (.comp iSeq (.cons (.pr pIx (.cons (.var 0) (.cons (.pr (kPr (.int 1)) .nil) .nil))) .nil) (.tup [(.name 1), (.name 2)]) .nil (.var 1) [1, 2]) .nil))) .nil)
def f_cells_in : Fn := fnOf "cells_in" fi_cells_in [false] c_cells_in
theorem k_cells_in : ckF fi_cells_in ["form"] [false] c_cells_in (L2.defBody st_cells_in) = true := by decide +kernel
abbrev st_reads : Stmt := top 7
def fi_reads : FI := ⟨["deed", "found", "cell", "form"], L2.defScope st_reads, [], false⟩
def b_reads_1 : CSs := (.cons (.ext 1 (.pr pList (.cons (.call f_cells_in (.val (.var 3) .nil)) .nil))) .nil)
def c_reads : CSs := (.cons (.own 1 (.pr pLst .nil)) (.cons (.for_ iSeq (.cons (.pr pIx (.cons (.var 0) (.cons (.pr (kPr (.int 2)) .nil) .nil))) .nil) (.tup [(.name 2), (.name 3)]) b_reads_1 [.fr, .ow, .un, .un]) (.cons (.ret (.pr pTuple (.cons (.pr pSortSet (.cons (.var 1) .nil)) .nil))) .nil)))
def f_reads : Fn := fnOf "reads" fi_reads [false] c_reads
theorem k_reads : ckF fi_reads ["deed"] [false] c_reads (L2.defBody st_reads) = true := by decide +kernel
abbrev st_writes : Stmt := top 8
def fi_writes : FI := ⟨["deed", "cell", "form"], L2.defScope st_writes, [], false⟩
def c_writes : CSs := (.cons (.ret (.pr pTuple (.cons (.comp iSeq (.cons (.pr pIx (.cons (.var 0) (.cons (.pr (kPr (.int 2)) .nil) .nil))) .nil) (.tup [(.name 1), (.name 2)]) .nil (.var 1) [1, 2]) .nil))) .nil)
def f_writes : Fn := fnOf "writes" fi_writes [false] c_writes
theorem k_writes : ckF fi_writes ["deed"] [false] c_writes (L2.defBody st_writes) = true := by decide +kernel
abbrev st_cells_of : Stmt := top 9
def fi_cells_of : FI := ⟨["row", "found", "deed"], L2.defScope st_cells_of, [], false⟩
def b_cells_of_1 : CSs := (.cons (.ext 1 (.pr pList (.cons (.pr pAdd (.cons (.call f_reads (.val (.var 2) .nil)) (.cons (.call f_writes (.val (.var 2) .nil)) .nil))) .nil))) .nil)
def c_cells_of : CSs := (.cons (.own 1 (.pr pLst .nil)) (.cons (.for_ iSeq (.cons (.var 0) .nil) (.name 2) b_cells_of_1 [.fr, .ow, .un]) (.cons (.ret (.pr pTuple (.cons (.pr pSortSet (.cons (.var 1) .nil)) .nil))) .nil)))
def f_cells_of : Fn := fnOf "cells_of" fi_cells_of [false] c_cells_of
theorem k_cells_of : ckF fi_cells_of ["row"] [false] c_cells_of (L2.defBody st_cells_of) = true := by decide +kernel
abbrev st_number_of : Stmt := top 10
def fi_number_of : FI := ⟨["row", "name", "number", "deed"], L2.defScope st_number_of, [], false⟩
def b_number_of_1 : CSs := (.cons (.iff (.pr pEq (.cons (.pr pIx (.cons (.var 3) (.cons (.pr (kPr (.int 0)) .nil) .nil))) (.cons (.var 1) .nil))) (.cons (.ret (.var 2)) .nil) .nil [.fr, .fr, .fr, .fr]) .nil)
def c_number_of : CSs := (.cons (.for_ iEnum (.cons (.var 0) .nil) (.tup [(.name 2), (.name 3)]) b_number_of_1 [.fr, .fr, .un, .un]) (.cons (.raise .NoDeed) .nil))
def f_number_of : Fn := fnOf "number_of" fi_number_of [false, false] c_number_of
theorem k_number_of : ckF fi_number_of ["row", "name"] [false, false] c_number_of (L2.defBody st_number_of) = true := by decide +kernel
abbrev st_worth_at : Stmt := top 15
def fi_worth_at : FI := ⟨["store", "cell"], L2.defScope st_worth_at, [], false⟩
def c_worth_at : CSs := (.cons (.ret (.meth mGet (.pr pDict (.cons (.var 0) .nil)) (.cons (.var 1) (.cons (.pr (kPr (.int 0)) .nil) .nil)))) .nil)
def f_worth_at : Fn := fnOf "worth_at" fi_worth_at [false, false] c_worth_at
theorem k_worth_at : ckF fi_worth_at ["store", "cell"] [false, false] c_worth_at (L2.defBody st_worth_at) = true := by decide +kernel
abbrev st_store_of : Stmt := top 14
def fi_store_of : FI := ⟨["table", "cell"], L2.defScope st_store_of, [], false⟩
def c_store_of : CSs := (.cons (.ret (.pr pTuple (.cons (.comp iSeq (.cons (.pr pSorted (.cons (.var 0) .nil)) .nil) (.name 1) (.cons (.pr pNe (.cons (.pr pIx (.cons (.var 0) (.cons (.var 1) .nil))) (.cons (.pr (kPr (.int 0)) .nil) .nil))) .nil) (.pr pTup (.cons (.var 1) (.cons (.pr pIx (.cons (.var 0) (.cons (.var 1) .nil))) .nil))) [1]) .nil))) .nil)
def f_store_of : Fn := fnOf "store_of" fi_store_of [false] c_store_of
theorem k_store_of : ckF fi_store_of ["table"] [false] c_store_of (L2.defBody st_store_of) = true := by decide +kernel
abbrev st_worth_of : Stmt := top 5
def fi_worth_of : FI := ⟨["form", "table", "cell", "many"], L2.defScope st_worth_of, [], false⟩
def c_worth_of : CSs := (.cons (.ret (.pr pAdd (.cons (.pr pIx (.cons (.var 0) (.cons (.pr (kPr (.int 0)) .nil) .nil))) (.cons (.pr pSum (.cons (.comp iSeq (.cons (.pr pIx (.cons (.var 0) (.cons (.pr (kPr (.int 1)) .nil) .nil))) .nil) (.tup [(.name 2), (.name 3)]) .nil (.pr pMul (.cons (.var 3) (.cons (.meth mGet (.var 1) (.cons (.var 2) (.cons (.pr (kPr (.int 0)) .nil) .nil))) .nil))) [2, 3]) .nil)) .nil)))) .nil)
def f_worth_of : Fn := fnOf "worth_of" fi_worth_of [false, false] c_worth_of
theorem k_worth_of : ckF fi_worth_of ["form", "table"] [false, false] c_worth_of (L2.defBody st_worth_of) = true := by decide +kernel
abbrev st_results : Stmt := top 16
def fi_results : FI := ⟨["store", "deed", "table", "cell", "form"], L2.defScope st_results, [], true⟩
def c_results : CSs := (.cons (.asg (.name 2) (.pr pDict (.cons (.var 0) .nil))) (.cons (.ret (.pr pDict (.cons (.comp iSeq (.cons (.pr pIx (.cons (.var 1) (.cons (.pr (kPr (.int 2)) .nil) .nil))) .nil) (.tup [(.name 3), (.name 4)]) .nil (.pr pTup (.cons (.var 3) (.cons (.call f_worth_of (.val (.var 4) (.val (.var 2) .nil))) .nil))) [3, 4]) .nil))) .nil))
def f_results : Fn := fnOf "results" fi_results [false, false] c_results
theorem k_results : ckF fi_results ["store", "deed"] [false, false] c_results (L2.defBody st_results) = true := by decide +kernel
abbrev st_done : Stmt := top 17
def fi_done : FI := ⟨["store", "deed", "table"], L2.defScope st_done, [], false⟩
def c_done : CSs := (.cons (.own 2 (.pr pDict (.cons (.var 0) .nil))) (.cons (.upd 2 (.call f_results (.val (.var 0) (.val (.var 1) .nil)))) (.frz 2 (.cons (.ret (.call f_store_of (.val (.var 2) .nil))) .nil))))
def f_done : Fn := fnOf "done" fi_done [false, false] c_done
theorem k_done : ckF fi_done ["store", "deed"] [false, false] c_done (L2.defBody st_done) = true := by decide +kernel
abbrev st_law_keeps : Stmt := top 29
def fi_law_keeps : FI := ⟨["_law_deed", "_law_store_here", "_law_other", "_law_mine", "_law_yours", "_law_cell"], L2.defScope st_law_keeps, [], false⟩
def b_law_keeps_1 : CSs := (.cons (.iff (.pr pIn (.cons (.var 5) (.cons (.call f_writes (.val (.var 0) .nil)) .nil))) (.cons (.iff (.pr pNe (.cons (.call f_worth_at (.val (.var 3) (.val (.var 5) .nil))) (.cons (.call f_worth_at (.val (.var 4) (.val (.var 5) .nil))) .nil))) (.cons (.ret (.pr (kPr (.bl false)) .nil)) .nil) .nil [.fr, .fr, .fr, .fr, .fr, .fr]) .nil) (.cons (.iff (.pr pNe (.cons (.call f_worth_at (.val (.var 3) (.val (.var 5) .nil))) (.cons (.call f_worth_at (.val (.var 1) (.val (.var 5) .nil))) .nil))) (.cons (.ret (.pr (kPr (.bl false)) .nil)) .nil) .nil [.fr, .fr, .fr, .fr, .fr, .fr]) .nil) [.fr, .fr, .fr, .fr, .fr, .fr]) .nil)
def c_law_keeps : CSs := (.cons (.par [(3, false), (4, false)] (.cons (.call f_done (.val (.var 1) (.val (.var 0) .nil))) (.cons (.call f_done (.val (.var 2) (.val (.var 0) .nil))) .nil))) (.cons (.for_ iSeq (.cons (.pr (kPr (.str "abcdefgh")) .nil) .nil) (.name 5) b_law_keeps_1 [.fr, .fr, .fr, .fr, .fr, .un]) (.cons (.ret (.pr (kPr (.bl true)) .nil)) .nil)))
def f_law_keeps : Fn := fnOf "_law_keeps" fi_law_keeps [false, false, false] c_law_keeps
theorem k_law_keeps : ckF fi_law_keeps ["_law_deed", "_law_store_here", "_law_other"] [false, false, false] c_law_keeps (L2.defBody st_law_keeps) = true := by decide +kernel
abbrev st_readers : Stmt := top 12
def fi_readers : FI := ⟨["row", "cell", "number", "deed"], L2.defScope st_readers, [], false⟩
def c_readers : CSs := (.cons (.ret (.pr pTuple (.cons (.comp iEnum (.cons (.var 0) .nil) (.tup [(.name 2), (.name 3)]) (.cons (.pr pIn (.cons (.var 1) (.cons (.call f_reads (.val (.var 3) .nil)) .nil))) .nil) (.var 2) [2, 3]) .nil))) .nil)
def f_readers : Fn := fnOf "readers" fi_readers [false, false] c_readers
theorem k_readers : ckF fi_readers ["row", "cell"] [false, false] c_readers (L2.defBody st_readers) = true := by decide +kernel
abbrev st_law_turned : Stmt := top 27
def fi_law_turned : FI := ⟨["_law_row_here", "_law_numbers", "_law_number"], L2.defScope st_law_turned, [], false⟩
def c_law_turned : CSs := (.cons (.ret (.pr pTuple (.cons (.comp iSeq (.cons (.pr (pRev) (.cons (.var 1) .nil)) .nil) (.name 2) .nil (.pr pSub (.cons (.pr pSub (.cons (.pr pLen (.cons (.var 0) .nil)) (.cons (.pr (kPr (.int 1)) .nil) .nil))) (.cons (.var 2) .nil))) [2]) .nil))) .nil)
def f_law_turned : Fn := fnOf "_law_turned" fi_law_turned [false, false] c_law_turned
theorem k_law_turned : ckF fi_law_turned ["_law_row_here", "_law_numbers"] [false, false] c_law_turned (L2.defBody st_law_turned) = true := by decide +kernel
abbrev st_writers : Stmt := top 11
def fi_writers : FI := ⟨["row", "cell", "number", "deed"], L2.defScope st_writers, [], false⟩
def c_writers : CSs := (.cons (.ret (.pr pTuple (.cons (.comp iEnum (.cons (.var 0) .nil) (.tup [(.name 2), (.name 3)]) (.cons (.pr pIn (.cons (.var 1) (.cons (.call f_writes (.val (.var 3) .nil)) .nil))) .nil) (.var 2) [2, 3]) .nil))) .nil)
def f_writers : Fn := fnOf "writers" fi_writers [false, false] c_writers
theorem k_writers : ckF fi_writers ["row", "cell"] [false, false] c_writers (L2.defBody st_writers) = true := by decide +kernel
abbrev st_law_is_right : Stmt := top 28
def fi_law_is_right : FI := ⟨["_law_row_here", "_law_cell", "_law_there", "_law_at"], L2.defScope st_law_is_right, [], false⟩
def c_law_is_right : CSs := (.cons (.asg (.name 2) (.pr pTuple (.cons (.comp iRng1 (.cons (.pr pLen (.cons (.var 0) .nil)) .nil) (.name 3) (.cons (.pr pIn (.cons (.var 1) (.cons (.call f_reads (.val (.pr pIx (.cons (.var 0) (.cons (.var 3) .nil))) .nil)) .nil))) .nil) (.var 3) [3]) .nil))) (.cons (.iff (.bool false (.cons (.pr pNe (.cons (.call f_readers (.val (.var 0) (.val (.var 1) .nil))) (.cons (.var 2) .nil))) (.cons (.pr pNe (.cons (.call f_readers (.val (.pr (pRev) (.cons (.var 0) .nil)) (.val (.var 1) .nil))) (.cons (.call f_law_turned (.val (.var 0) (.val (.var 2) .nil))) .nil))) .nil))) (.cons (.ret (.pr (kPr (.bl false)) .nil)) .nil) .nil [.fr, .fr, .fr, .un]) (.cons (.asg (.name 2) (.pr pTuple (.cons (.comp iRng1 (.cons (.pr pLen (.cons (.var 0) .nil)) .nil) (.name 3) (.cons (.pr pIn (.cons (.var 1) (.cons (.call f_writes (.val (.pr pIx (.cons (.var 0) (.cons (.var 3) .nil))) .nil)) .nil))) .nil) (.var 3) [3]) .nil))) (.cons (.ret (.bool true (.cons (.pr pEq (.cons (.call f_writers (.val (.var 0) (.val (.var 1) .nil))) (.cons (.var 2) .nil))) (.cons (.pr pEq (.cons (.call f_writers (.val (.pr (pRev) (.cons (.var 0) .nil)) (.val (.var 1) .nil))) (.cons (.call f_law_turned (.val (.var 0) (.val (.var 2) .nil))) .nil))) .nil)))) .nil))))
def f_law_is_right : Fn := fnOf "_law_is_right" fi_law_is_right [false, false] c_law_is_right
theorem k_law_is_right : ckF fi_law_is_right ["_law_row_here", "_law_cell"] [false, false] c_law_is_right (L2.defBody st_law_is_right) = true := by decide +kernel
abbrev st_law : Stmt := top 30
def fi_law : FI := ⟨["_law_script", "_law_town", "_law_k", "_law_row_here", "_law_store_here", "_law_some", "_law_number", "_law_deed", "_law_other", "_law_cell"], L2.defScope st_law, [], false⟩
def b_law_1 : CSs := (.cons (.setIt 8 (.var 9) (.call f_worth_at (.val (.var 4) (.val (.var 9) .nil)))) .nil)
def b_law_2 : CSs := (.cons (.iff (.pr pNe (.cons (.call f_number_of (.val (.var 3) (.val (.pr pIx (.cons (.var 7) (.cons (.pr (kPr (.int 0)) .nil) .nil))) .nil))) (.cons (.var 6) .nil))) (.cons (.ret (.pr (kPr (.bl false)) .nil)) .nil) .nil [.fr, .ow, .fr, .fr, .fr, .fr, .fr, .fr, .un, .un]) (.cons (.own 8 (.pr pDict (.cons (.call f_law_store (.val (.var 0) (.lent 1 .nil))) .nil))) (.cons (.for_ iSeq (.cons (.call f_reads (.val (.var 7) .nil)) .nil) (.name 9) b_law_1 [.fr, .ow, .fr, .fr, .fr, .fr, .fr, .fr, .ow, .un]) (.cons (.asg (.name 8) (.pr pTuple (.cons (.comp iSeq (.cons (.pr pSorted (.cons (.var 8) .nil)) .nil) (.name 9) (.cons (.pr pNe (.cons (.pr pIx (.cons (.var 8) (.cons (.var 9) .nil))) (.cons (.pr (kPr (.int 0)) .nil) .nil))) .nil) (.pr pTup (.cons (.var 9) (.cons (.pr pIx (.cons (.var 8) (.cons (.var 9) .nil))) .nil))) [9]) .nil))) (.cons (.iff (.not (.call f_law_keeps (.val (.var 7) (.val (.var 4) (.val (.var 8) .nil))))) (.cons (.ret (.pr (kPr (.bl false)) .nil)) .nil) .nil [.fr, .ow, .fr, .fr, .fr, .fr, .fr, .fr, .fr, .un]) .nil)))))
def b_law_3 : CSs := (.cons (.par [(3, false), (4, false)] (.cons (.call f_law_row (.val (.var 0) (.lent 1 (.val (.pr (kPr (.int 10)) .nil) .nil)))) (.cons (.call f_law_store (.val (.var 0) (.lent 1 .nil))) .nil))) (.cons (.iff (.not (.pr pAll (.cons (.comp iSeq (.cons (.pr (kPr (.str "abcdefgh")) .nil) .nil) (.name 9) .nil (.call f_law_is_right (.val (.var 3) (.val (.var 9) .nil))) [9]) .nil))) (.cons (.ret (.pr (kPr (.bl false)) .nil)) .nil) .nil [.fr, .ow, .fr, .fr, .fr, .un, .un, .un, .un, .un]) (.cons (.asg (.name 5) (.meth mJoin (.pr (kPr (.str "")) .nil) (.cons (.comp iSeq (.cons (.pr (kPr (.str "abcdefgh")) .nil) .nil) (.name 9) (.cons (.pr pAdd (.cons (.call f_readers (.val (.var 3) (.val (.var 9) .nil))) (.cons (.call f_writers (.val (.var 3) (.val (.var 9) .nil))) .nil))) .nil) (.var 9) [9]) .nil))) (.cons (.iff (.bool false (.cons (.pr pNe (.cons (.meth mJoin (.pr (kPr (.str "")) .nil) (.cons (.call f_cells_of (.val (.var 3) .nil)) .nil)) (.cons (.var 5) .nil))) (.cons (.pr pNe (.cons (.call f_cells_of (.val (.var 3) .nil)) (.cons (.call f_cells_of (.val (.pr (pRev) (.cons (.var 3) .nil)) .nil)) .nil))) .nil))) (.cons (.ret (.pr (kPr (.bl false)) .nil)) .nil) .nil [.fr, .ow, .fr, .fr, .fr, .fr, .un, .un, .un, .un]) (.cons (.for_ iEnum (.cons (.var 3) .nil) (.tup [(.name 6), (.name 7)]) b_law_2 [.fr, .ow, .fr, .fr, .fr, .fr, .un, .un, .un, .un]) .nil)))))
def c_law : CSs := (.cons (.own 1 (.pr pLst .nil)) (.cons (.for_ iRng1 (.cons (.pr (kPr (.int 4)) .nil) .nil) (.name 2) b_law_3 [.fr, .ow, .un, .un, .un, .un, .un, .un, .un, .un]) (.cons (.ret (.pr (kPr (.bl true)) .nil)) .nil)))
def f_law : Fn := fnOf "law" fi_law [false] c_law
theorem k_law : ckF fi_law ["_law_script"] [false] c_law (L2.defBody st_law) = true := by decide +kernel
end T
end
section
set_option maxRecDepth 100000
set_option maxHeartbeats 0
namespace T
open PySem G L2
/-- what is known of the text -/
structure Txt (C : Cn) : Prop where
  d_law_draw : DefAt C "_law_draw" st_law_draw
  d_law_pick : DefAt C "_law_pick" st_law_pick
  d_law_mixed : DefAt C "_law_mixed" st_law_mixed
  d_law_form : DefAt C "_law_form" st_law_form
  d_law_row : DefAt C "_law_row" st_law_row
  d_law_store : DefAt C "_law_store" st_law_store
  d_cells_in : DefAt C "cells_in" st_cells_in
  d_reads : DefAt C "reads" st_reads
  d_writes : DefAt C "writes" st_writes
  d_cells_of : DefAt C "cells_of" st_cells_of
  d_number_of : DefAt C "number_of" st_number_of
  d_worth_at : DefAt C "worth_at" st_worth_at
  d_store_of : DefAt C "store_of" st_store_of
  d_worth_of : DefAt C "worth_of" st_worth_of
  d_results : DefAt C "results" st_results
  d_done : DefAt C "done" st_done
  d_law_keeps : DefAt C "_law_keeps" st_law_keeps
  d_readers : DefAt C "readers" st_readers
  d_law_turned : DefAt C "_law_turned" st_law_turned
  d_writers : DefAt C "writers" st_writers
  d_law_is_right : DefAt C "_law_is_right" st_law_is_right
  d_law : DefAt C "law" st_law
  b_all : C.mg "all" = none
  b_dict : C.mg "dict" = none
  b_enumerate : C.mg "enumerate" = none
  b_len : C.mg "len" = none
  b_list : C.mg "list" = none
  b_range : C.mg "range" = none
  b_set : C.mg "set" = none
  b_sorted : C.mg "sorted" = none
  b_sum : C.mg "sum" = none
  b_tuple : C.mg "tuple" = none
  x_NoDeed : ExF C .NoDeed
theorem s_law_draw : FnScope fi_law_draw.N ["_law_script", "_law_town", "_law_many"] fi_law_draw.sc := ⟨rfl, rfl, rfl, by decide +kernel, rfl, by decide +kernel, by decide +kernel⟩
theorem o_law_draw {C : Cn} (h : Txt C) : OkSs C 0 c_law_draw :=
  ⟨⟨(kPr_ok _), trivial⟩, ⟨⟨(pLen_ok h.b_len), ⟨trivial, trivial⟩⟩, ⟨⟨(kPr_ok _), trivial⟩, ⟨⟨trivial, ⟨⟨pIx_ok, ⟨trivial, ⟨⟨pMod_ok, ⟨trivial, ⟨⟨(pLen_ok h.b_len), ⟨trivial, trivial⟩⟩, trivial⟩⟩⟩, trivial⟩⟩⟩, trivial⟩, trivial⟩, ⟨⟨pMod_ok, ⟨⟨pAdd_ok, ⟨trivial, ⟨⟨pMul_ok, ⟨⟨(kPr_ok _), trivial⟩, ⟨trivial, trivial⟩⟩⟩, trivial⟩⟩⟩, ⟨⟨(kPr_ok _), trivial⟩, trivial⟩⟩⟩, ⟨⟨pMod_ok, ⟨⟨pMul_ok, ⟨⟨pMod_ok, ⟨⟨pMul_ok, ⟨trivial, ⟨trivial, trivial⟩⟩⟩, ⟨⟨(kPr_ok _), trivial⟩, trivial⟩⟩⟩, ⟨⟨(kPr_ok _), trivial⟩, trivial⟩⟩⟩, ⟨⟨(kPr_ok _), trivial⟩, trivial⟩⟩⟩, ⟨⟨pMod_ok, ⟨⟨pMul_ok, ⟨⟨pMod_ok, ⟨⟨pMul_ok, ⟨trivial, ⟨trivial, trivial⟩⟩⟩, ⟨⟨(kPr_ok _), trivial⟩, trivial⟩⟩⟩, ⟨⟨(kPr_ok _), trivial⟩, trivial⟩⟩⟩, ⟨⟨(kPr_ok _), trivial⟩, trivial⟩⟩⟩, ⟨⟨pMod_ok, ⟨⟨pAdd_ok, ⟨⟨pMul_ok, ⟨⟨pDiv_ok, ⟨trivial, ⟨⟨(kPr_ok _), trivial⟩, trivial⟩⟩⟩, ⟨⟨(kPr_ok _), trivial⟩, trivial⟩⟩⟩, ⟨⟨pDiv_ok, ⟨trivial, ⟨⟨(kPr_ok _), trivial⟩, trivial⟩⟩⟩, trivial⟩⟩⟩, ⟨trivial, trivial⟩⟩⟩, trivial⟩⟩⟩⟩⟩⟩⟩⟩
theorem g_law_draw {C : Cn} (h : Txt C) : FnGood C 1 f_law_draw :=
  good_at (k := 0) h.d_law_draw rfl s_law_draw (fun _ _ _ _ _ _ us hl => match us, hl with | [_, _, _], _ => rfl) k_law_draw (o_law_draw h)
theorem s_law_pick : FnScope fi_law_pick.N ["_law_script", "_law_town", "_law_some"] fi_law_pick.sc := ⟨rfl, rfl, rfl, by decide +kernel, rfl, by decide +kernel, by decide +kernel⟩
theorem o_law_pick {C : Cn} (h : Txt C) : OkSs C 1 c_law_pick :=
  ⟨⟨pIx_ok, ⟨trivial, ⟨⟨(g_law_draw h).mono (by decide), ⟨trivial, ⟨⟨(pLen_ok h.b_len), ⟨trivial, trivial⟩⟩, trivial⟩⟩⟩, trivial⟩⟩⟩, trivial⟩
theorem g_law_pick {C : Cn} (h : Txt C) : FnGood C 2 f_law_pick :=
  good_at (k := 1) h.d_law_pick rfl s_law_pick (fun _ _ _ _ _ _ us hl => match us, hl with | [_, _, _], _ => rfl) k_law_pick (o_law_pick h)
theorem s_law_mixed : FnScope fi_law_mixed.N ["_law_script", "_law_town", "_law_row_here"] fi_law_mixed.sc := ⟨rfl, rfl, rfl, by decide +kernel, rfl, by decide +kernel, by decide +kernel⟩
theorem o_law_mixed {C : Cn} (h : Txt C) : OkSs C 1 c_law_mixed :=
  ⟨⟨⟨(pList_ok h.b_list), ⟨trivial, trivial⟩⟩, ⟨⟨pLst_ok, trivial⟩, trivial⟩⟩, ⟨⟨trivial, ⟨⟨⟨(g_law_draw h).mono (by decide), ⟨trivial, ⟨⟨(pLen_ok h.b_len), ⟨trivial, trivial⟩⟩, trivial⟩⟩⟩, trivial⟩, trivial⟩⟩, ⟨trivial, trivial⟩⟩⟩
theorem g_law_mixed {C : Cn} (h : Txt C) : FnGood C 2 f_law_mixed :=
  good_at (k := 1) h.d_law_mixed rfl s_law_mixed (fun _ _ _ _ _ _ us hl => match us, hl with | [_, _, _], _ => rfl) k_law_mixed (o_law_mixed h)
theorem s_law_form : FnScope fi_law_form.N ["_law_script", "_law_town", "_law_cells"] fi_law_form.sc := ⟨rfl, rfl, rfl, by decide +kernel, rfl, by decide +kernel, by decide +kernel⟩
theorem o_law_form {C : Cn} (h : Txt C) : OkSs C 2 c_law_form :=
  ⟨⟨⟨pTup_ok, trivial⟩, ⟨⟨(g_law_pick h).mono (by decide), ⟨trivial, ⟨⟨pLst_ok, ⟨⟨(kPr_ok _), trivial⟩, ⟨⟨(kPr_ok _), trivial⟩, ⟨⟨(kPr_ok _), trivial⟩, ⟨⟨(kPr_ok _), trivial⟩, trivial⟩⟩⟩⟩⟩, trivial⟩⟩⟩, trivial⟩⟩, ⟨⟨iSeq_ok, ⟨trivial, trivial⟩, ⟨⟨⟨pEq_ok, ⟨⟨(g_law_draw h).mono (by decide), ⟨trivial, ⟨trivial, trivial⟩⟩⟩, ⟨⟨(kPr_ok _), trivial⟩, trivial⟩⟩⟩, ⟨⟨(g_law_pick h).mono (by decide), ⟨trivial, ⟨⟨pLst_ok, ⟨⟨(kPr_ok _), trivial⟩, ⟨⟨(kPr_ok _), trivial⟩, ⟨⟨pNeg_ok, ⟨⟨(kPr_ok _), trivial⟩, trivial⟩⟩, ⟨⟨(kPr_ok _), trivial⟩, ⟨⟨pNeg_ok, ⟨⟨(kPr_ok _), trivial⟩, trivial⟩⟩, ⟨⟨pAdd_ok, ⟨⟨(kPr_ok _), trivial⟩, ⟨⟨(g_law_draw h).mono (by decide), ⟨trivial, ⟨⟨(kPr_ok _), trivial⟩, trivial⟩⟩⟩, trivial⟩⟩⟩, trivial⟩⟩⟩⟩⟩⟩⟩, trivial⟩⟩⟩, ⟨⟨pAdd_ok, ⟨trivial, ⟨⟨pTup_ok, ⟨⟨pTup_ok, ⟨trivial, ⟨trivial, trivial⟩⟩⟩, trivial⟩⟩, trivial⟩⟩⟩, trivial⟩⟩, trivial⟩, trivial⟩⟩, ⟨⟨pTup_ok, ⟨⟨(g_law_pick h).mono (by decide), ⟨trivial, ⟨⟨pLst_ok, ⟨⟨(kPr_ok _), trivial⟩, ⟨⟨(kPr_ok _), trivial⟩, ⟨⟨(kPr_ok _), trivial⟩, ⟨⟨(kPr_ok _), trivial⟩, ⟨⟨pNeg_ok, ⟨⟨(kPr_ok _), trivial⟩, trivial⟩⟩, ⟨⟨pSub_ok, ⟨⟨(g_law_draw h).mono (by decide), ⟨trivial, ⟨⟨(kPr_ok _), trivial⟩, trivial⟩⟩⟩, ⟨⟨(kPr_ok _), trivial⟩, trivial⟩⟩⟩, trivial⟩⟩⟩⟩⟩⟩⟩, trivial⟩⟩⟩, ⟨trivial, trivial⟩⟩⟩, trivial⟩⟩⟩
theorem g_law_form {C : Cn} (h : Txt C) : FnGood C 3 f_law_form :=
  good_at (k := 2) h.d_law_form rfl s_law_form (fun _ _ _ _ _ _ us hl => match us, hl with | [_, _, _], _ => rfl) k_law_form (o_law_form h)
theorem s_law_row : FnScope fi_law_row.N ["_law_script", "_law_town", "_law_most"] fi_law_row.sc := ⟨rfl, rfl, rfl, by decide +kernel, rfl, by decide +kernel, by decide +kernel⟩
theorem o_law_row {C : Cn} (h : Txt C) : OkSs C 3 c_law_row :=
  ⟨⟨(g_law_pick h).mono (by decide), ⟨trivial, ⟨⟨pLst_ok, ⟨⟨(kPr_ok _), trivial⟩, ⟨⟨(kPr_ok _), trivial⟩, ⟨⟨(kPr_ok _), trivial⟩, ⟨⟨(kPr_ok _), trivial⟩, ⟨⟨(kPr_ok _), trivial⟩, trivial⟩⟩⟩⟩⟩⟩, trivial⟩⟩⟩, ⟨⟨(g_law_mixed h).mono (by decide), ⟨trivial, ⟨⟨pLst_ok, ⟨⟨(kPr_ok _), trivial⟩, ⟨⟨(kPr_ok _), trivial⟩, ⟨⟨(kPr_ok _), trivial⟩, ⟨⟨(kPr_ok _), trivial⟩, ⟨⟨(kPr_ok _), trivial⟩, ⟨⟨(kPr_ok _), trivial⟩, ⟨⟨(kPr_ok _), trivial⟩, ⟨⟨(kPr_ok _), trivial⟩, ⟨⟨(kPr_ok _), trivial⟩, ⟨⟨(kPr_ok _), trivial⟩, ⟨⟨(kPr_ok _), trivial⟩, ⟨⟨(kPr_ok _), trivial⟩, trivial⟩⟩⟩⟩⟩⟩⟩⟩⟩⟩⟩⟩⟩, trivial⟩⟩⟩, ⟨⟨pTup_ok, trivial⟩, ⟨⟨(iRng1_ok h.b_range), ⟨⟨(g_law_draw h).mono (by decide), ⟨trivial, ⟨⟨pAdd_ok, ⟨trivial, ⟨⟨(kPr_ok _), trivial⟩, trivial⟩⟩⟩, trivial⟩⟩⟩, trivial⟩, ⟨⟨(g_law_pick h).mono (by decide), ⟨trivial, ⟨⟨pLst_ok, ⟨⟨(kPr_ok _), trivial⟩, ⟨⟨(kPr_ok _), trivial⟩, ⟨⟨(kPr_ok _), trivial⟩, ⟨⟨(kPr_ok _), trivial⟩, ⟨⟨(kPr_ok _), trivial⟩, ⟨⟨(kPr_ok _), trivial⟩, ⟨⟨(kPr_ok _), trivial⟩, trivial⟩⟩⟩⟩⟩⟩⟩⟩, trivial⟩⟩⟩, ⟨⟨(pDict_ok h.b_dict), ⟨⟨(iRng1_ok h.b_range), ⟨trivial, trivial⟩, trivial, ⟨pTup_ok, ⟨⟨(g_law_pick h).mono (by decide), ⟨trivial, ⟨trivial, trivial⟩⟩⟩, ⟨⟨(kPr_ok _), trivial⟩, trivial⟩⟩⟩⟩, trivial⟩⟩, ⟨⟨(pTuple_ok h.b_tuple), ⟨⟨iSeq_ok, ⟨⟨(pSorted_ok h.b_sorted), ⟨trivial, trivial⟩⟩, trivial⟩, trivial, ⟨pTup_ok, ⟨trivial, ⟨⟨(g_law_form h).mono (by decide), ⟨trivial, ⟨trivial, trivial⟩⟩⟩, trivial⟩⟩⟩⟩, trivial⟩⟩, ⟨⟨pAdd_ok, ⟨trivial, ⟨⟨pTup_ok, ⟨⟨pTup_ok, ⟨⟨pIx_ok, ⟨trivial, ⟨trivial, trivial⟩⟩⟩, ⟨⟨pAdd_ok, ⟨⟨(kPr_ok _), trivial⟩, ⟨⟨(g_law_draw h).mono (by decide), ⟨trivial, ⟨⟨(kPr_ok _), trivial⟩, trivial⟩⟩⟩, trivial⟩⟩⟩, ⟨trivial, trivial⟩⟩⟩⟩, trivial⟩⟩, trivial⟩⟩⟩, trivial⟩⟩⟩⟩⟩, ⟨trivial, trivial⟩⟩⟩⟩⟩
theorem g_law_row {C : Cn} (h : Txt C) : FnGood C 4 f_law_row :=
  good_at (k := 3) h.d_law_row rfl s_law_row (fun _ _ _ _ _ _ us hl => match us, hl with | [_, _, _], _ => rfl) k_law_row (o_law_row h)
theorem s_law_store : FnScope fi_law_store.N ["_law_script", "_law_town"] fi_law_store.sc := ⟨rfl, rfl, rfl, by decide +kernel, rfl, by decide +kernel, by decide +kernel⟩
theorem o_law_store {C : Cn} (h : Txt C) : OkSs C 2 c_law_store :=
  ⟨⟨pTup_ok, trivial⟩, ⟨⟨iSeq_ok, ⟨⟨(kPr_ok _), trivial⟩, trivial⟩, ⟨⟨(g_law_pick h).mono (by decide), ⟨trivial, ⟨⟨pLst_ok, ⟨⟨(kPr_ok _), trivial⟩, ⟨⟨(kPr_ok _), trivial⟩, ⟨⟨(kPr_ok _), trivial⟩, ⟨⟨pNeg_ok, ⟨⟨(kPr_ok _), trivial⟩, trivial⟩⟩, ⟨⟨(kPr_ok _), trivial⟩, ⟨⟨(kPr_ok _), trivial⟩, ⟨⟨pNeg_ok, ⟨⟨(kPr_ok _), trivial⟩, trivial⟩⟩, trivial⟩⟩⟩⟩⟩⟩⟩⟩, trivial⟩⟩⟩, ⟨⟨pAdd_ok, ⟨trivial, ⟨⟨⟨pNe_ok, ⟨trivial, ⟨⟨(kPr_ok _), trivial⟩, trivial⟩⟩⟩, ⟨pTup_ok, ⟨⟨pTup_ok, ⟨trivial, ⟨trivial, trivial⟩⟩⟩, trivial⟩⟩, ⟨pTup_ok, trivial⟩⟩, trivial⟩⟩⟩, trivial⟩⟩⟩, ⟨trivial, trivial⟩⟩⟩
theorem g_law_store {C : Cn} (h : Txt C) : FnGood C 3 f_law_store :=
  good_at (k := 2) h.d_law_store rfl s_law_store (fun _ _ _ _ _ _ us hl => match us, hl with | [_, _], _ => rfl) k_law_store (o_law_store h)
theorem s_cells_in : FnScope fi_cells_in.N ["form"] fi_cells_in.sc := ⟨rfl, rfl, rfl, by decide +kernel, rfl, by decide +kernel, by decide +kernel⟩
theorem o_cells_in {C : Cn} (h : Txt C) : OkSs C 0 c_cells_in :=
  ⟨⟨(pTuple_ok h.b_tuple), ⟨⟨iSeq_ok, ⟨⟨pIx_ok, ⟨trivial, ⟨⟨(kPr_ok _), trivial⟩, trivial⟩⟩⟩, trivial⟩, trivial, trivial⟩, trivial⟩⟩, trivial⟩
theorem g_cells_in {C : Cn} (h : Txt C) : FnGood C 1 f_cells_in :=
  good_at (k := 0) h.d_cells_in rfl s_cells_in (fun _ _ _ _ _ _ us hl => match us, hl with | [_], _ => rfl) k_cells_in (o_cells_in h)
theorem s_reads : FnScope fi_reads.N ["deed"] fi_reads.sc := ⟨rfl, rfl, rfl, by decide +kernel, rfl, by decide +kernel, by decide +kernel⟩
theorem o_reads {C : Cn} (h : Txt C) : OkSs C 1 c_reads :=
  ⟨⟨pLst_ok, trivial⟩, ⟨⟨iSeq_ok, ⟨⟨pIx_ok, ⟨trivial, ⟨⟨(kPr_ok _), trivial⟩, trivial⟩⟩⟩, trivial⟩, ⟨⟨(pList_ok h.b_list), ⟨⟨(g_cells_in h).mono (by decide), ⟨trivial, trivial⟩⟩, trivial⟩⟩, trivial⟩⟩, ⟨⟨(pTuple_ok h.b_tuple), ⟨⟨(pSortSet_ok h.b_sorted h.b_set), ⟨trivial, trivial⟩⟩, trivial⟩⟩, trivial⟩⟩⟩
theorem g_reads {C : Cn} (h : Txt C) : FnGood C 2 f_reads :=
  good_at (k := 1) h.d_reads rfl s_reads (fun _ _ _ _ _ _ us hl => match us, hl with | [_], _ => rfl) k_reads (o_reads h)
theorem s_writes : FnScope fi_writes.N ["deed"] fi_writes.sc := ⟨rfl, rfl, rfl, by decide +kernel, rfl, by decide +kernel, by decide +kernel⟩
theorem o_writes {C : Cn} (h : Txt C) : OkSs C 0 c_writes :=
  ⟨⟨(pTuple_ok h.b_tuple), ⟨⟨iSeq_ok, ⟨⟨pIx_ok, ⟨trivial, ⟨⟨(kPr_ok _), trivial⟩, trivial⟩⟩⟩, trivial⟩, trivial, trivial⟩, trivial⟩⟩, trivial⟩
theorem g_writes {C : Cn} (h : Txt C) : FnGood C 1 f_writes :=
  good_at (k := 0) h.d_writes rfl s_writes (fun _ _ _ _ _ _ us hl => match us, hl with | [_], _ => rfl) k_writes (o_writes h)
theorem s_cells_of : FnScope fi_cells_of.N ["row"] fi_cells_of.sc := ⟨rfl, rfl, rfl, by decide +kernel, rfl, by decide +kernel, by decide +kernel⟩
theorem o_cells_of {C : Cn} (h : Txt C) : OkSs C 2 c_cells_of :=
  ⟨⟨pLst_ok, trivial⟩, ⟨⟨iSeq_ok, ⟨trivial, trivial⟩, ⟨⟨(pList_ok h.b_list), ⟨⟨pAdd_ok, ⟨⟨(g_reads h).mono (by decide), ⟨trivial, trivial⟩⟩, ⟨⟨(g_writes h).mono (by decide), ⟨trivial, trivial⟩⟩, trivial⟩⟩⟩, trivial⟩⟩, trivial⟩⟩, ⟨⟨(pTuple_ok h.b_tuple), ⟨⟨(pSortSet_ok h.b_sorted h.b_set), ⟨trivial, trivial⟩⟩, trivial⟩⟩, trivial⟩⟩⟩
theorem g_cells_of {C : Cn} (h : Txt C) : FnGood C 3 f_cells_of :=
  good_at (k := 2) h.d_cells_of rfl s_cells_of (fun _ _ _ _ _ _ us hl => match us, hl with | [_], _ => rfl) k_cells_of (o_cells_of h)
theorem s_number_of : FnScope fi_number_of.N ["row", "name"] fi_number_of.sc := ⟨rfl, rfl, rfl, by decide +kernel, rfl, by decide +kernel, by decide +kernel⟩
theorem o_number_of {C : Cn} (h : Txt C) : OkSs C 0 c_number_of :=
  ⟨⟨(iEnum_ok h.b_enumerate), ⟨trivial, trivial⟩, ⟨⟨⟨pEq_ok, ⟨⟨pIx_ok, ⟨trivial, ⟨⟨(kPr_ok _), trivial⟩, trivial⟩⟩⟩, ⟨trivial, trivial⟩⟩⟩, ⟨trivial, trivial⟩, trivial⟩, trivial⟩⟩, ⟨(h.x_NoDeed), trivial⟩⟩
theorem g_number_of {C : Cn} (h : Txt C) : FnGood C 1 f_number_of :=
  good_at (k := 0) h.d_number_of rfl s_number_of (fun _ _ _ _ _ _ us hl => match us, hl with | [_, _], _ => rfl) k_number_of (o_number_of h)
theorem s_worth_at : FnScope fi_worth_at.N ["store", "cell"] fi_worth_at.sc := ⟨rfl, rfl, rfl, by decide +kernel, rfl, by decide +kernel, by decide +kernel⟩
theorem o_worth_at {C : Cn} (h : Txt C) : OkSs C 0 c_worth_at :=
  ⟨⟨mGet_ok, ⟨(pDict_ok h.b_dict), ⟨trivial, trivial⟩⟩, ⟨trivial, ⟨⟨(kPr_ok _), trivial⟩, trivial⟩⟩⟩, trivial⟩
theorem g_worth_at {C : Cn} (h : Txt C) : FnGood C 1 f_worth_at :=
  good_at (k := 0) h.d_worth_at rfl s_worth_at (fun _ _ _ _ _ _ us hl => match us, hl with | [_, _], _ => rfl) k_worth_at (o_worth_at h)
theorem s_store_of : FnScope fi_store_of.N ["table"] fi_store_of.sc := ⟨rfl, rfl, rfl, by decide +kernel, rfl, by decide +kernel, by decide +kernel⟩
theorem o_store_of {C : Cn} (h : Txt C) : OkSs C 0 c_store_of :=
  ⟨⟨(pTuple_ok h.b_tuple), ⟨⟨iSeq_ok, ⟨⟨(pSorted_ok h.b_sorted), ⟨trivial, trivial⟩⟩, trivial⟩, ⟨⟨pNe_ok, ⟨⟨pIx_ok, ⟨trivial, ⟨trivial, trivial⟩⟩⟩, ⟨⟨(kPr_ok _), trivial⟩, trivial⟩⟩⟩, trivial⟩, ⟨pTup_ok, ⟨trivial, ⟨⟨pIx_ok, ⟨trivial, ⟨trivial, trivial⟩⟩⟩, trivial⟩⟩⟩⟩, trivial⟩⟩, trivial⟩
theorem g_store_of {C : Cn} (h : Txt C) : FnGood C 1 f_store_of :=
  good_at (k := 0) h.d_store_of rfl s_store_of (fun _ _ _ _ _ _ us hl => match us, hl with | [_], _ => rfl) k_store_of (o_store_of h)
theorem s_worth_of : FnScope fi_worth_of.N ["form", "table"] fi_worth_of.sc := ⟨rfl, rfl, rfl, by decide +kernel, rfl, by decide +kernel, by decide +kernel⟩
theorem o_worth_of {C : Cn} (h : Txt C) : OkSs C 0 c_worth_of :=
  ⟨⟨pAdd_ok, ⟨⟨pIx_ok, ⟨trivial, ⟨⟨(kPr_ok _), trivial⟩, trivial⟩⟩⟩, ⟨⟨(pSum_ok h.b_sum), ⟨⟨iSeq_ok, ⟨⟨pIx_ok, ⟨trivial, ⟨⟨(kPr_ok _), trivial⟩, trivial⟩⟩⟩, trivial⟩, trivial, ⟨pMul_ok, ⟨trivial, ⟨⟨mGet_ok, trivial, ⟨trivial, ⟨⟨(kPr_ok _), trivial⟩, trivial⟩⟩⟩, trivial⟩⟩⟩⟩, trivial⟩⟩, trivial⟩⟩⟩, trivial⟩
theorem g_worth_of {C : Cn} (h : Txt C) : FnGood C 1 f_worth_of :=
  good_at (k := 0) h.d_worth_of rfl s_worth_of (fun _ _ _ _ _ _ us hl => match us, hl with | [_, _], _ => rfl) k_worth_of (o_worth_of h)
theorem s_results : FnScope fi_results.N ["store", "deed"] fi_results.sc := ⟨rfl, rfl, rfl, by decide +kernel, rfl, by decide +kernel, by decide +kernel⟩
theorem o_results {C : Cn} (h : Txt C) : OkSs C 1 c_results :=
  ⟨⟨(pDict_ok h.b_dict), ⟨trivial, trivial⟩⟩, ⟨⟨(pDict_ok h.b_dict), ⟨⟨iSeq_ok, ⟨⟨pIx_ok, ⟨trivial, ⟨⟨(kPr_ok _), trivial⟩, trivial⟩⟩⟩, trivial⟩, trivial, ⟨pTup_ok, ⟨trivial, ⟨⟨(g_worth_of h).mono (by decide), ⟨trivial, ⟨trivial, trivial⟩⟩⟩, trivial⟩⟩⟩⟩, trivial⟩⟩, trivial⟩⟩
theorem g_results {C : Cn} (h : Txt C) : FnGood C 2 f_results :=
  good_at (k := 1) h.d_results rfl s_results (fun _ _ _ _ _ _ us hl => match us, hl with | [_, _], _ => rfl) k_results (o_results h)
theorem s_done : FnScope fi_done.N ["store", "deed"] fi_done.sc := ⟨rfl, rfl, rfl, by decide +kernel, rfl, by decide +kernel, by decide +kernel⟩
theorem o_done {C : Cn} (h : Txt C) : OkSs C 2 c_done :=
  ⟨⟨(pDict_ok h.b_dict), ⟨trivial, trivial⟩⟩, ⟨⟨(g_results h).mono (by decide), ⟨trivial, ⟨trivial, trivial⟩⟩⟩, ⟨⟨(g_store_of h).mono (by decide), ⟨trivial, trivial⟩⟩, trivial⟩⟩⟩
theorem g_done {C : Cn} (h : Txt C) : FnGood C 3 f_done :=
  good_at (k := 2) h.d_done rfl s_done (fun _ _ _ _ _ _ us hl => match us, hl with | [_, _], _ => rfl) k_done (o_done h)
theorem s_law_keeps : FnScope fi_law_keeps.N ["_law_deed", "_law_store_here", "_law_other"] fi_law_keeps.sc := ⟨rfl, rfl, rfl, by decide +kernel, rfl, by decide +kernel, by decide +kernel⟩
theorem o_law_keeps {C : Cn} (h : Txt C) : OkSs C 3 c_law_keeps :=
  ⟨⟨⟨(g_done h).mono (by decide), ⟨trivial, ⟨trivial, trivial⟩⟩⟩, ⟨⟨(g_done h).mono (by decide), ⟨trivial, ⟨trivial, trivial⟩⟩⟩, trivial⟩⟩, ⟨⟨iSeq_ok, ⟨⟨(kPr_ok _), trivial⟩, trivial⟩, ⟨⟨⟨pIn_ok, ⟨trivial, ⟨⟨(g_writes h).mono (by decide), ⟨trivial, trivial⟩⟩, trivial⟩⟩⟩, ⟨⟨⟨pNe_ok, ⟨⟨(g_worth_at h).mono (by decide), ⟨trivial, ⟨trivial, trivial⟩⟩⟩, ⟨⟨(g_worth_at h).mono (by decide), ⟨trivial, ⟨trivial, trivial⟩⟩⟩, trivial⟩⟩⟩, ⟨⟨(kPr_ok _), trivial⟩, trivial⟩, trivial⟩, trivial⟩, ⟨⟨⟨pNe_ok, ⟨⟨(g_worth_at h).mono (by decide), ⟨trivial, ⟨trivial, trivial⟩⟩⟩, ⟨⟨(g_worth_at h).mono (by decide), ⟨trivial, ⟨trivial, trivial⟩⟩⟩, trivial⟩⟩⟩, ⟨⟨(kPr_ok _), trivial⟩, trivial⟩, trivial⟩, trivial⟩⟩, trivial⟩⟩, ⟨⟨(kPr_ok _), trivial⟩, trivial⟩⟩⟩
theorem g_law_keeps {C : Cn} (h : Txt C) : FnGood C 4 f_law_keeps :=
  good_at (k := 3) h.d_law_keeps rfl s_law_keeps (fun _ _ _ _ _ _ us hl => match us, hl with | [_, _, _], _ => rfl) k_law_keeps (o_law_keeps h)
theorem s_readers : FnScope fi_readers.N ["row", "cell"] fi_readers.sc := ⟨rfl, rfl, rfl, by decide +kernel, rfl, by decide +kernel, by decide +kernel⟩
theorem o_readers {C : Cn} (h : Txt C) : OkSs C 2 c_readers :=
  ⟨⟨(pTuple_ok h.b_tuple), ⟨⟨(iEnum_ok h.b_enumerate), ⟨trivial, trivial⟩, ⟨⟨pIn_ok, ⟨trivial, ⟨⟨(g_reads h).mono (by decide), ⟨trivial, trivial⟩⟩, trivial⟩⟩⟩, trivial⟩, trivial⟩, trivial⟩⟩, trivial⟩
theorem g_readers {C : Cn} (h : Txt C) : FnGood C 3 f_readers :=
  good_at (k := 2) h.d_readers rfl s_readers (fun _ _ _ _ _ _ us hl => match us, hl with | [_, _], _ => rfl) k_readers (o_readers h)
theorem s_law_turned : FnScope fi_law_turned.N ["_law_row_here", "_law_numbers"] fi_law_turned.sc := ⟨rfl, rfl, rfl, by decide +kernel, rfl, by decide +kernel, by decide +kernel⟩
theorem o_law_turned {C : Cn} (h : Txt C) : OkSs C 0 c_law_turned :=
  ⟨⟨(pTuple_ok h.b_tuple), ⟨⟨iSeq_ok, ⟨⟨(pRev_ok), ⟨trivial, trivial⟩⟩, trivial⟩, trivial, ⟨pSub_ok, ⟨⟨pSub_ok, ⟨⟨(pLen_ok h.b_len), ⟨trivial, trivial⟩⟩, ⟨⟨(kPr_ok _), trivial⟩, trivial⟩⟩⟩, ⟨trivial, trivial⟩⟩⟩⟩, trivial⟩⟩, trivial⟩
theorem g_law_turned {C : Cn} (h : Txt C) : FnGood C 1 f_law_turned :=
  good_at (k := 0) h.d_law_turned rfl s_law_turned (fun _ _ _ _ _ _ us hl => match us, hl with | [_, _], _ => rfl) k_law_turned (o_law_turned h)
theorem s_writers : FnScope fi_writers.N ["row", "cell"] fi_writers.sc := ⟨rfl, rfl, rfl, by decide +kernel, rfl, by decide +kernel, by decide +kernel⟩
theorem o_writers {C : Cn} (h : Txt C) : OkSs C 1 c_writers :=
  ⟨⟨(pTuple_ok h.b_tuple), ⟨⟨(iEnum_ok h.b_enumerate), ⟨trivial, trivial⟩, ⟨⟨pIn_ok, ⟨trivial, ⟨⟨(g_writes h).mono (by decide), ⟨trivial, trivial⟩⟩, trivial⟩⟩⟩, trivial⟩, trivial⟩, trivial⟩⟩, trivial⟩
theorem g_writers {C : Cn} (h : Txt C) : FnGood C 2 f_writers :=
  good_at (k := 1) h.d_writers rfl s_writers (fun _ _ _ _ _ _ us hl => match us, hl with | [_, _], _ => rfl) k_writers (o_writers h)
theorem s_law_is_right : FnScope fi_law_is_right.N ["_law_row_here", "_law_cell"] fi_law_is_right.sc := ⟨rfl, rfl, rfl, by decide +kernel, rfl, by decide +kernel, by decide +kernel⟩
theorem o_law_is_right {C : Cn} (h : Txt C) : OkSs C 3 c_law_is_right :=
  ⟨⟨(pTuple_ok h.b_tuple), ⟨⟨(iRng1_ok h.b_range), ⟨⟨(pLen_ok h.b_len), ⟨trivial, trivial⟩⟩, trivial⟩, ⟨⟨pIn_ok, ⟨trivial, ⟨⟨(g_reads h).mono (by decide), ⟨⟨pIx_ok, ⟨trivial, ⟨trivial, trivial⟩⟩⟩, trivial⟩⟩, trivial⟩⟩⟩, trivial⟩, trivial⟩, trivial⟩⟩, ⟨⟨⟨⟨pNe_ok, ⟨⟨(g_readers h).mono (by decide), ⟨trivial, ⟨trivial, trivial⟩⟩⟩, ⟨trivial, trivial⟩⟩⟩, ⟨⟨pNe_ok, ⟨⟨(g_readers h).mono (by decide), ⟨⟨(pRev_ok), ⟨trivial, trivial⟩⟩, ⟨trivial, trivial⟩⟩⟩, ⟨⟨(g_law_turned h).mono (by decide), ⟨trivial, ⟨trivial, trivial⟩⟩⟩, trivial⟩⟩⟩, trivial⟩⟩, ⟨⟨(kPr_ok _), trivial⟩, trivial⟩, trivial⟩, ⟨⟨(pTuple_ok h.b_tuple), ⟨⟨(iRng1_ok h.b_range), ⟨⟨(pLen_ok h.b_len), ⟨trivial, trivial⟩⟩, trivial⟩, ⟨⟨pIn_ok, ⟨trivial, ⟨⟨(g_writes h).mono (by decide), ⟨⟨pIx_ok, ⟨trivial, ⟨trivial, trivial⟩⟩⟩, trivial⟩⟩, trivial⟩⟩⟩, trivial⟩, trivial⟩, trivial⟩⟩, ⟨⟨⟨pEq_ok, ⟨⟨(g_writers h).mono (by decide), ⟨trivial, ⟨trivial, trivial⟩⟩⟩, ⟨trivial, trivial⟩⟩⟩, ⟨⟨pEq_ok, ⟨⟨(g_writers h).mono (by decide), ⟨⟨(pRev_ok), ⟨trivial, trivial⟩⟩, ⟨trivial, trivial⟩⟩⟩, ⟨⟨(g_law_turned h).mono (by decide), ⟨trivial, ⟨trivial, trivial⟩⟩⟩, trivial⟩⟩⟩, trivial⟩⟩, trivial⟩⟩⟩⟩
theorem g_law_is_right {C : Cn} (h : Txt C) : FnGood C 4 f_law_is_right :=
  good_at (k := 3) h.d_law_is_right rfl s_law_is_right (fun _ _ _ _ _ _ us hl => match us, hl with | [_, _], _ => rfl) k_law_is_right (o_law_is_right h)
theorem s_law : FnScope fi_law.N ["_law_script"] fi_law.sc := ⟨rfl, rfl, rfl, by decide +kernel, rfl, by decide +kernel, by decide +kernel⟩
theorem o_law {C : Cn} (h : Txt C) : OkSs C 4 c_law :=
  ⟨⟨pLst_ok, trivial⟩, ⟨⟨(iRng1_ok h.b_range), ⟨⟨(kPr_ok _), trivial⟩, trivial⟩, ⟨⟨⟨(g_law_row h).mono (by decide), ⟨trivial, ⟨⟨(kPr_ok _), trivial⟩, trivial⟩⟩⟩, ⟨⟨(g_law_store h).mono (by decide), ⟨trivial, trivial⟩⟩, trivial⟩⟩, ⟨⟨⟨(pAll_ok h.b_all), ⟨⟨iSeq_ok, ⟨⟨(kPr_ok _), trivial⟩, trivial⟩, trivial, ⟨(g_law_is_right h).mono (by decide), ⟨trivial, ⟨trivial, trivial⟩⟩⟩⟩, trivial⟩⟩, ⟨⟨(kPr_ok _), trivial⟩, trivial⟩, trivial⟩, ⟨⟨mJoin_ok, ⟨(kPr_ok _), trivial⟩, ⟨⟨iSeq_ok, ⟨⟨(kPr_ok _), trivial⟩, trivial⟩, ⟨⟨pAdd_ok, ⟨⟨(g_readers h).mono (by decide), ⟨trivial, ⟨trivial, trivial⟩⟩⟩, ⟨⟨(g_writers h).mono (by decide), ⟨trivial, ⟨trivial, trivial⟩⟩⟩, trivial⟩⟩⟩, trivial⟩, trivial⟩, trivial⟩⟩, ⟨⟨⟨⟨pNe_ok, ⟨⟨mJoin_ok, ⟨(kPr_ok _), trivial⟩, ⟨⟨(g_cells_of h).mono (by decide), ⟨trivial, trivial⟩⟩, trivial⟩⟩, ⟨trivial, trivial⟩⟩⟩, ⟨⟨pNe_ok, ⟨⟨(g_cells_of h).mono (by decide), ⟨trivial, trivial⟩⟩, ⟨⟨(g_cells_of h).mono (by decide), ⟨⟨(pRev_ok), ⟨trivial, trivial⟩⟩, trivial⟩⟩, trivial⟩⟩⟩, trivial⟩⟩, ⟨⟨(kPr_ok _), trivial⟩, trivial⟩, trivial⟩, ⟨⟨(iEnum_ok h.b_enumerate), ⟨trivial, trivial⟩, ⟨⟨⟨pNe_ok, ⟨⟨(g_number_of h).mono (by decide), ⟨trivial, ⟨⟨pIx_ok, ⟨trivial, ⟨⟨(kPr_ok _), trivial⟩, trivial⟩⟩⟩, trivial⟩⟩⟩, ⟨trivial, trivial⟩⟩⟩, ⟨⟨(kPr_ok _), trivial⟩, trivial⟩, trivial⟩, ⟨⟨(pDict_ok h.b_dict), ⟨⟨(g_law_store h).mono (by decide), ⟨trivial, trivial⟩⟩, trivial⟩⟩, ⟨⟨iSeq_ok, ⟨⟨(g_reads h).mono (by decide), ⟨trivial, trivial⟩⟩, trivial⟩, ⟨⟨⟨(g_worth_at h).mono (by decide), ⟨trivial, ⟨trivial, trivial⟩⟩⟩, trivial⟩, trivial⟩⟩, ⟨⟨(pTuple_ok h.b_tuple), ⟨⟨iSeq_ok, ⟨⟨(pSorted_ok h.b_sorted), ⟨trivial, trivial⟩⟩, trivial⟩, ⟨⟨pNe_ok, ⟨⟨pIx_ok, ⟨trivial, ⟨trivial, trivial⟩⟩⟩, ⟨⟨(kPr_ok _), trivial⟩, trivial⟩⟩⟩, trivial⟩, ⟨pTup_ok, ⟨trivial, ⟨⟨pIx_ok, ⟨trivial, ⟨trivial, trivial⟩⟩⟩, trivial⟩⟩⟩⟩, trivial⟩⟩, ⟨⟨⟨(g_law_keeps h).mono (by decide), ⟨trivial, ⟨trivial, ⟨trivial, trivial⟩⟩⟩⟩, ⟨⟨(kPr_ok _), trivial⟩, trivial⟩, trivial⟩, trivial⟩⟩⟩⟩⟩⟩, trivial⟩⟩⟩⟩⟩⟩, ⟨⟨(kPr_ok _), trivial⟩, trivial⟩⟩⟩
theorem g_law {C : Cn} (h : Txt C) : FnGood C 5 f_law :=
  good_at (k := 4) h.d_law rfl s_law (fun _ _ _ _ _ _ us hl => match us, hl with | [_], _ => rfl) k_law (o_law h)
def fn : List He.DefD := [datum "_law_draw" st_law_draw, datum "_law_pick" st_law_pick, datum "_law_mixed" st_law_mixed, datum "_law_form" st_law_form, datum "_law_row" st_law_row, datum "_law_store" st_law_store, datum "cells_in" st_cells_in, datum "reads" st_reads, datum "writes" st_writes, datum "cells_of" st_cells_of, datum "number_of" st_number_of, datum "worth_at" st_worth_at, datum "store_of" st_store_of, datum "worth_of" st_worth_of, datum "results" st_results, datum "done" st_done, datum "_law_keeps" st_law_keeps, datum "readers" st_readers, datum "_law_turned" st_law_turned, datum "writers" st_writers, datum "_law_is_right" st_law_is_right, datum "law" st_law]
def fa : List He.Fa := [.glo "_law_draw", .glo "_law_pick", .glo "_law_mixed", .glo "_law_form", .glo "_law_row", .glo "_law_store", .glo "cells_in", .glo "reads", .glo "writes", .glo "cells_of", .glo "number_of", .glo "worth_at", .glo "store_of", .glo "worth_of", .glo "results", .glo "done", .glo "_law_keeps", .glo "readers", .glo "_law_turned", .glo "writers", .glo "_law_is_right", .glo "law", .free "all", .free "dict", .free "enumerate", .free "len", .free "list", .free "range", .free "set", .free "sorted", .free "sum", .free "tuple", .glo "NoDeed", .exc "NoDeed"]
abbrev R : PySem.W.OpenRow := PySem.W.OpenLaw.row PySem.Challenge.rw_sidedeeds_k26_whole_who_reads_and_writes
abbrev hk : PySem.W.Hook := He.hookD 4 fa fn
def ob (s : PySem.W.SharedT) : He.AlD := He.obsDG 4 fa fn (HandSHeadRun.getT s)
theorem ob_eq (s : PySem.W.SharedT) : ob s = hk.obs s.abs := He.obsDG_eq (HandSHeadRun.getT_eq s)
def loose0 : List Str := ["SideError", "NoDeed", "cells_in", "worth_of", "reads", "writes", "cells_of", "number_of", "writers", "readers", "store_of", "worth_at", "results", "done", "_law_draw", "_law_pick", "_law_form", "_law_mixed", "_law_row", "_law_store", "_law_reads", "_law_writes", "_law_turned", "_law_is_right", "_law_keeps"]
def loose : List Str := loose0
theorem run (w : World) : HandSHeadRun.RunEq R (PySem.W.view R.prog [30]) hk ob 1340 loose w := by
  intro os
  kernel_rfl
theorem facts {P : Program} {w : World} {K : PySem.W.Frag} {h base : Heap} {mg : Str → Option Value} (X : K.In h) (G : h.Ns mainGlobals mg) (c : He.SaysD fa fn K) : Txt ⟨P, w, K, mg, base⟩ where
  d_law_draw := DefAt.of X G c 0 0 rfl rfl
  d_law_pick := DefAt.of X G c 1 1 rfl rfl
  d_law_mixed := DefAt.of X G c 2 2 rfl rfl
  d_law_form := DefAt.of X G c 3 3 rfl rfl
  d_law_row := DefAt.of X G c 4 4 rfl rfl
  d_law_store := DefAt.of X G c 5 5 rfl rfl
  d_cells_in := DefAt.of X G c 6 6 rfl rfl
  d_reads := DefAt.of X G c 7 7 rfl rfl
  d_writes := DefAt.of X G c 8 8 rfl rfl
  d_cells_of := DefAt.of X G c 9 9 rfl rfl
  d_number_of := DefAt.of X G c 10 10 rfl rfl
  d_worth_at := DefAt.of X G c 11 11 rfl rfl
  d_store_of := DefAt.of X G c 12 12 rfl rfl
  d_worth_of := DefAt.of X G c 13 13 rfl rfl
  d_results := DefAt.of X G c 14 14 rfl rfl
  d_done := DefAt.of X G c 15 15 rfl rfl
  d_law_keeps := DefAt.of X G c 16 16 rfl rfl
  d_readers := DefAt.of X G c 17 17 rfl rfl
  d_law_turned := DefAt.of X G c 18 18 rfl rfl
  d_writers := DefAt.of X G c 19 19 rfl rfl
  d_law_is_right := DefAt.of X G c 20 20 rfl rfl
  d_law := DefAt.of X G c 21 21 rfl rfl
  b_all := He.free_ok X G (c.fact 22 (f := .free "all") rfl)
  b_dict := He.free_ok X G (c.fact 23 (f := .free "dict") rfl)
  b_enumerate := He.free_ok X G (c.fact 24 (f := .free "enumerate") rfl)
  b_len := He.free_ok X G (c.fact 25 (f := .free "len") rfl)
  b_list := He.free_ok X G (c.fact 26 (f := .free "list") rfl)
  b_range := He.free_ok X G (c.fact 27 (f := .free "range") rfl)
  b_set := He.free_ok X G (c.fact 28 (f := .free "set") rfl)
  b_sorted := He.free_ok X G (c.fact 29 (f := .free "sorted") rfl)
  b_sum := He.free_ok X G (c.fact 30 (f := .free "sum") rfl)
  b_tuple := He.free_ok X G (c.fact 31 (f := .free "tuple") rfl)
  x_NoDeed := ExF.of X G c 32 33 rfl rfl
end T
open PySem PySem.W PySem.Calls
theorem law_holds_of (pure_law : ∀ ns : List Int, ns.length ≤ 63 → ∃ o, T.f_law.sem [.scr ns] = .ret (.bl true) o) : PySem.Challenge.rw_sidedeeds_k26_whole_who_reads_and_writes.Holds := by
  w_on; o_law
  refine HandSHeadRun.head_any (r := OpenLaw.row PySem.Challenge.rw_sidedeeds_k26_whole_who_reads_and_writes) (q := view (OpenLaw.row PySem.Challenge.rw_sidedeeds_k26_whole_who_reads_and_writes).prog [30]) (H := T.hk) (ob := T.ob) (M := 1340) (loose := T.loose) (d := HandSHeadRun.topDef (OpenLaw.row PySem.Challenge.rw_sidedeeds_k26_whole_who_reads_and_writes).prog 30) (kwd := []) T.ob_eq
    (by kernel_rfl) (fun s => by kernel_rfl) T.run (by kernel_rfl) (by kernel_rfl) (by kernel_rfl) (by rfl) (by first | assumption | decide +kernel) (by decide +kernel) ⟨rfl, rfl, rfl, rfl, rfl, by decide +kernel⟩ ?hw ?hc
  case hw => w_witness2
  case hc =>
    refine L2.walk_ofE (l := PySem.Challenge.rw_sidedeeds_k26_whole_who_reads_and_writes) (n := 63) (k := 5) (x := "_law_script") (CX := L2.CX0) rfl (by decide) (by kernel_rfl) ⟨rfl, by decide, by decide⟩ ?F (fun _ _ _ _ z => z)
    intro w mg fa h Y G0 hmg0
    obtain ⟨K, KX, c⟩ := Y
    have hmg : mg ("law" : PySem.Str) = some (.ref fa) := by
      have e : (HandSHeadRun.topDef (OpenLaw.row PySem.Challenge.rw_sidedeeds_k26_whole_who_reads_and_writes).prog 30).name = ("law" : PySem.Str) := by kernel_rfl
      rw [← e]
      exact hmg0
    exact G.law_F KX G0 hmg c (i := 21) (st := T.st_law) rfl rfl (fun _ _ _ _ _ _ us hl => match us, hl with | [_], _ => rfl) rfl T.s_law T.k_law (fun base => T.o_law (T.facts KX G0 c)) rfl pure_law
end
section
set_option maxRecDepth 10000
/-! For the plain side: what the strict things come to, in rows for simp. -/
namespace G
open PySem L2
theorem pAdd_sem (x y : D) : pAdd.sem [x, y] = addS x y := rfl
theorem pCat_sem (x y : D) : pCat.sem [x, y] = catS x y := rfl
theorem pSub_sem (x y : D) : pSub.sem [x, y] = subS x y := rfl
theorem pMul_sem (x y : D) : pMul.sem [x, y] = mulS x y := rfl
theorem pDiv_sem (x y : D) : pDiv.sem [x, y] = divS x y := rfl
theorem pMod_sem (x y : D) : pMod.sem [x, y] = modS x y := rfl
theorem pEq_sem (x y : D) : pEq.sem [x, y] = eqS x y := rfl
theorem pNe_sem (x y : D) : pNe.sem [x, y] = neS x y := rfl
theorem pLt_sem (x y : D) : pLt.sem [x, y] = ltS x y := rfl
theorem pLe_sem (x y : D) : pLe.sem [x, y] = leS x y := rfl
theorem pGt_sem (x y : D) : pGt.sem [x, y] = gtS x y := rfl
theorem pGe_sem (x y : D) : pGe.sem [x, y] = geS x y := rfl
theorem pIs_sem (x y : D) : pIs.sem [x, y] = isS x y := rfl
theorem pIsnt_sem (x y : D) : pIsnt.sem [x, y] = isntS x y := rfl
theorem pIn_sem (x y : D) : pIn.sem [x, y] = inS x y := rfl
theorem pNin_sem (x y : D) : pNin.sem [x, y] = ninS x y := rfl
theorem pDk_sem : pDk.sem [] = some (.dk []) := rfl
theorem pDt_sem : pDt.sem [] = some (.dt []) := rfl
theorem pTup0 : pTup.sem [] = some (.tup []) := by show (if ([] : List D).length ≤ sizeLine then some (D.tup []) else none) = _; rw [sizeLine_eq]; rfl
theorem pTup1 (a : D) : pTup.sem [a] = some (.tup [a]) := by show (if ([a] : List D).length ≤ sizeLine then some (D.tup [a]) else none) = _; rw [sizeLine_eq]; rfl
theorem pTup2 (a b : D) : pTup.sem [a, b] = some (.tup [a, b]) := by show (if ([a, b] : List D).length ≤ sizeLine then some (D.tup [a, b]) else none) = _; rw [sizeLine_eq]; rfl
theorem pTup3 (a b c : D) : pTup.sem [a, b, c] = some (.tup [a, b, c]) := by show (if ([a, b, c] : List D).length ≤ sizeLine then some (D.tup [a, b, c]) else none) = _; rw [sizeLine_eq]; rfl
theorem pLst_of (ds : List D) (h : ds.length ≤ 16777216) : pLst.sem ds = some (.lst ds) := by show (if ds.length ≤ sizeLine then some (D.lst ds) else none) = _; rw [sizeLine_eq, if_pos h]
theorem add_int (i j : Int) : addS (.int i) (.int j) = some (.int (i + j)) := rfl
theorem sub_int (i j : Int) : subS (.int i) (.int j) = some (.int (i - j)) := rfl
theorem neg_int (i : Int) : negS (.int i) = some (.int (-i)) := rfl
theorem mul_l {i j : Int} (h : i.natAbs < 18446744073709551616) : mulS (.int i) (.int j) = some (.int (i * j)) := by
  show (if mulB i j = true then _ else _) = _
  rw [if_pos]
  unfold mulB
  simp [h]
theorem mul_r {i j : Int} (h : j.natAbs < 18446744073709551616) : mulS (.int i) (.int j) = some (.int (i * j)) := by
  show (if mulB i j = true then _ else _) = _
  rw [if_pos]
  unfold mulB
  simp [h]
theorem div_int {i j : Int} (h : 0 < j ∧ j < 1073741824) : divS (.int i) (.int j) = some (.int (i / j)) := by
  show (if _ then _ else _) = _
  rw [if_pos h]
theorem mod_int {i j : Int} (h : 0 < j) : modS (.int i) (.int j) = some (.int (i % j)) := by
  show (if _ then _ else _) = _
  rw [if_pos h]
theorem tru_bl (b : Bool) : tru (.bl b) = some b := rfl
theorem tru_int (i : Int) : tru (.int i) = some (i != 0) := rfl
theorem tru_tup (xs : List D) : tru (.tup xs) = some (!xs.isEmpty) := rfl
theorem tru_lst (xs : List D) : tru (.lst xs) = some (!xs.isEmpty) := rfl
theorem tru_scr (ns : List Int) : tru (.scr ns) = some (!ns.isEmpty) := rfl
/-- one statement, then the rest -/
theorem ss_nx {c : CS} {cs : CSs} {s s1 : Sg} (h : evS c s = .nx s1) : evSs (.cons c cs) s = evSs cs s1 := by
  show (match evS c s with
    | .nx s1 => evSs cs s1
    | o => o) = _
  rw [h]
theorem ss_ret {c : CS} {cs : CSs} {s s1 : Sg} {d : D} (h : evS c s = .ret d s1) : evSs (.cons c cs) s = .ret d s1 := by
  show (match evS c s with
    | .nx s1 => evSs cs s1
    | o => o) = _
  rw [h]
theorem ss_exc {c : CS} {cs : CSs} {s s1 : Sg} {x : Ex} (h : evS c s = .exc x s1) : evSs (.cons c cs) s = .exc x s1 := by
  show (match evS c s with
    | .nx s1 => evSs cs s1
    | o => o) = _
  rw [h]
/-! steps, put together by hand -/
theorem es_nil {s : Sg} : evEs .nil s = .ok [] s := rfl
theorem es_cons {c : CE} {cs : CEs} {s s1 s2 : Sg} {d : D} {ds : List D} (h1 : evE c s = .ok d s1) (h2 : evEs cs s1 = .ok ds s2) : evEs (.cons c cs) s = .ok (d :: ds) s2 := by
  show (evE c s).bind _ = _
  rw [h1, Out.bind_ok, h2]
  rfl
theorem e_var {s : Sg} {i : Nat} {d : D} (h : gt s i = d) : evE (.var i) s = .ok d s := by rw [← h]; rfl
theorem e_pr {P : Pr} {cs : CEs} {s s1 : Sg} {ds : List D} {d : D} (h1 : evEs cs s = .ok ds s1) (h2 : P.sem ds = some d) : evE (.pr P cs) s = .ok d s1 := by
  show (evEs cs s).bind _ = _
  rw [h1, Out.bind_ok, h2]
  rfl
theorem e_k {k : Ct} {s : Sg} : evE (.pr (kPr k) .nil) s = .ok k.d s := rfl
theorem e_ki {i : Int} {s : Sg} : evE (.pr (kPr (.int i)) .nil) s = .ok (.int i) s := rfl
theorem e_ks {x : Str} {s : Sg} : evE (.pr (kPr (.str x)) .nil) s = .ok (.str x) s := rfl
theorem e_kb {b : Bool} {s : Sg} : evE (.pr (kPr (.bl b)) .nil) s = .ok (.bl b) s := rfl
theorem e_kn {s : Sg} : evE (.pr (kPr .non) .nil) s = .ok .non s := rfl
theorem e_meth {M : Mt} {c : CE} {cs : CEs} {s s1 s2 : Sg} {o : D} {ds : List D} {d : D} (h1 : evE c s = .ok o s1) (hr : M.recv o = true) (h2 : evEs cs s1 = .ok ds s2) (h3 : M.sem o ds = some d) : evE (.meth M c cs) s = .ok d s2 := by
  show (evE c s).bind _ = _
  rw [h1, Out.bind_ok, if_pos hr, h2, Out.bind_ok, h3]
  rfl
theorem e_call {f : Fn} {cs : CAs} {s s1 : Sg} {ds o : List D} {d : D} (h1 : evAs cs s = .ok ds s1) (h2 : f.sem (fill cs ds s1) = .ret d o) : evE (.call f cs) s = .ok d (putB cs o s1) := by
  show (evAs cs s).bind _ = _
  rw [h1, Out.bind_ok, h2]
theorem as_nil {s : Sg} : evAs .nil s = .ok [] s := rfl
theorem as_val {c : CE} {cs : CAs} {s s1 s2 : Sg} {d : D} {ds : List D} (h1 : evE c s = .ok d s1) (h2 : evAs cs s1 = .ok ds s2) : evAs (.val c cs) s = .ok (d :: ds) s2 := by
  show (evE c s).bind _ = _
  rw [h1, Out.bind_ok, h2]
  rfl
theorem as_lent {i : Nat} {cs : CAs} {s s1 : Sg} {ds : List D} (h : evAs cs s = .ok ds s1) : evAs (.lent i cs) s = .ok ds s1 := h
theorem e_comp {P : Ip} {cs : CEs} {tg : Tg} {ifs : CEs} {elt : CE} {own : List Nat} {s s1 s2 : Sg} {ds items acc : List D} (h1 : evEs cs s = .ok ds s1) (h2 : P.sem ds = some items) (h3 : compL tg (fun s2 => evTs ifs s2) (fun s2 => evE elt s2) own items s1 [] = .ok acc s2) :
    evE (.comp P cs tg ifs elt own) s = .ok (.lst acc) (rest s1 s2 own) := by
  show (evEs cs s).bind _ = _
  rw [h1, Out.bind_ok, h2]
  dsimp only
  rw [h3]
  rfl
theorem s_asg {tg : Tg} {e : CE} {s s1 s2 : Sg} {d : D} (h1 : evE e s = .ok d s1) (h2 : bnd tg d s1 = some s2) : evS (.asg tg e) s = .nx s2 := by
  show (evE e s).st _ = _
  rw [h1, Out.st_ok, h2]
theorem s_own {i : Nat} {e : CE} {s s1 : Sg} {d : D} (h1 : evE e s = .ok d s1) : evS (.own i e) s = .nx (s1.set i d) := by
  show (evE e s).st _ = _
  rw [h1]
  rfl
theorem s_par {ts : List (Nat × Bool)} {es : CEs} {s s1 : Sg} {ds : List D} (h1 : evEs es s = .ok ds s1) : evS (.par ts es) s = .nx (parSet ts ds s1) := by
  show (evEs es s).st _ = _
  rw [h1]
  rfl
theorem s_setIt {i : Nat} {ix e : CE} {s s1 s2 : Sg} {v k d : D} (h1 : evE e s = .ok v s1) (h2 : evE ix s1 = .ok k s2) (h3 : setAt (gt s2 i) k v = some d) : evS (.setIt i ix e) s = .nx (s2.set i d) := by
  show (evE e s).st _ = _
  rw [h1, Out.st_ok, h2, Out.st_ok, h3]
  rfl
theorem s_app {i : Nat} {e : CE} {s s1 : Sg} {v d : D} (h0 : isLst (gt s i) = true) (h1 : evE e s = .ok v s1) (h3 : appTo (gt s1 i) v = some d) : evS (.app i e) s = .nx (s1.set i d) := by
  show (if isLst (gt s i) = true then _ else _) = _
  rw [if_pos h0, h1, Out.st_ok, h3]
  rfl
theorem s_ret {e : CE} {s s1 : Sg} {d : D} (h1 : evE e s = .ok d s1) : evS (.ret e) s = .ret d s1 := by
  show (evE e s).st _ = _
  rw [h1]
  rfl
theorem s_iff {c : CE} {a b : CSs} {g : List SK} {s s1 : Sg} {t : Bool} (h1 : evT c s = .ok t s1) : evS (.iff c a b g) s = if t = true then evSs a s1 else evSs b s1 := by
  show (evT c s).st _ = _
  rw [h1]
  rfl
theorem s_for {P : Ip} {cs : CEs} {tg : Tg} {body : CSs} {g : List SK} {s s1 : Sg} {ds items : List D} (h1 : evEs cs s = .ok ds s1) (h2 : P.sem ds = some items) : evS (.for_ P cs tg body g) s = forL tg (fun s2 => evSs body s2) items s1 := by
  show (evEs cs s).st _ = _
  rw [h1, Out.st_ok, h2]
theorem t_pr {P : Pr} {cs : CEs} {s s1 : Sg} {ds : List D} {d : D} {b : Bool} (h1 : evEs cs s = .ok ds s1) (h2 : P.sem ds = some d) (h3 : tru d = some b) : evT (.pr P cs) s = .ok b s1 := by
  show (evEs cs s).bind _ = _
  rw [h1, Out.bind_ok, h2, optD_some, Out.bind_ok, h3]
  rfl
theorem frz_eq {i : Nat} {cs : CSs} {s : Sg} : evSs (.frz i cs) s = evSs cs s := rfl
/-- an invariant of a for: st i is the state ahead of turn i -/
theorem for_inv {tg : Tg} {body : Sg → SOut} : ∀ (items : List D) (st : Nat → Sg) (i0 : Nat), (∀ (i : Nat) (d : D), items[i]? = some d → ∃ s1, bnd tg d (st (i0 + i)) = some s1 ∧ body s1 = .nx (st (i0 + i + 1))) → forL tg body items (st i0) = .nx (st (i0 + items.length))
  | [], st, i0, _ => rfl
  | d :: ds, st, i0, h => by
    obtain ⟨s1, h1, h2⟩ := h 0 d rfl
    show (match bnd tg d (st i0) with
      | none => SOut.stuck
      | some s1 => match body s1 with
        | .nx s2 => forL tg body ds s2
        | o => o) = _
    rw [Nat.add_zero] at h1 h2
    rw [h1]
    dsimp only
    rw [h2]
    dsimp only
    rw [for_inv ds st (i0 + 1) fun i d hd => by
      obtain ⟨s1, q1, q2⟩ := h (i + 1) d hd
      exact ⟨s1, by rw [show i0 + 1 + i = i0 + (i + 1) from by omega]; exact q1, by rw [show i0 + 1 + i + 1 = i0 + (i + 1) + 1 from by omega]; exact q2⟩]
    rw [List.length_cons, show i0 + 1 + ds.length = i0 + (ds.length + 1) from by omega]
/-- what the turns put out -/
def outL {α β : Type} (f : α → β → α) (g : α → β → List D) : α → List β → List D
  | _, [] => []
  | a, x :: xs => g a x ++ outL f g (f a x) xs
/-- a for as a fold of what its state stands for -/
theorem for_fold {α β : Type} {tg : Tg} {body : Sg → SOut} (enc : β → D) (f : α → β → α) (I : α → Sg → Prop) : ∀ (xs : List β) (a : α) (s : Sg), (∀ a x s, x ∈ xs → I a s → ∃ s1 s2, bnd tg (enc x) s = some s1 ∧ body s1 = .nx s2 ∧ I (f a x) s2) → I a s →
    ∃ s', forL tg body (xs.map enc) s = .nx s' ∧ I (xs.foldl f a) s'
  | [], a, s, _, h => ⟨s, rfl, h⟩
  | x :: xs, a, s, st, h => by
    obtain ⟨s1, s2, h1, h2, h3⟩ := st a x s List.mem_cons_self h
    obtain ⟨s', h4, h5⟩ := for_fold enc f I xs (f a x) s2 (fun a y s hy => st a y s (List.mem_cons_of_mem _ hy)) h3
    refine ⟨s', ?_, h5⟩
    show (match bnd tg (enc x) s with
      | none => SOut.stuck
      | some s1 => match body s1 with
        | .nx s2 => forL tg body (xs.map enc) s2
        | o => o) = _
    rw [h1]
    dsimp only
    rw [h2]
    exact h4
/-- a comprehension as a fold: g tells what a turn puts out -/
theorem comp_fold {α β : Type} {tg : Tg} {ifs : Sg → Out Bool} {elt : Sg → Out D} {own : List Nat} (enc : β → D) (f : α → β → α) (g : α → β → List D) (I : α → Sg → Prop) : ∀ (xs : List β) (a : α) (s : Sg) (acc : List D),
    (∀ a x s, x ∈ xs → I a s → ∃ s1, bnd tg (enc x) (wipe s own) = some s1 ∧ ((∃ s2 s3 y, ifs s1 = .ok true s2 ∧ elt s2 = .ok y s3 ∧ g a x = [y] ∧ I (f a x) s3) ∨ ∃ s2, ifs s1 = .ok false s2 ∧ g a x = [] ∧ I (f a x) s2)) → I a s → acc.length + xs.length ≤ 16777216 →
    ∃ s', compL tg ifs elt own (xs.map enc) s acc = .ok (acc ++ outL f g a xs) s' ∧ I (xs.foldl f a) s'
  | [], a, s, acc, _, h, _ => ⟨s, by show Out.ok acc s = .ok (acc ++ []) s; rw [List.append_nil], h⟩
  | x :: xs, a, s, acc, st, h, hl => by
    rw [List.length_cons] at hl
    obtain ⟨s1, h1, h2⟩ := st a x s List.mem_cons_self h
    have st' := fun a y s hy => st a y s (List.mem_cons_of_mem x hy)
    have unf : compL tg ifs elt own ((x :: xs).map enc) s acc = (ifs s1).bind fun b s2 => if b then (elt s2).bind fun y s3 => if acc.length < sizeLine then compL tg ifs elt own (xs.map enc) s3 (acc ++ [y]) else .stuck else compL tg ifs elt own (xs.map enc) s2 acc := by
      show (match bnd tg (enc x) (wipe s own) with
        | none => Out.stuck
        | some s1 => (ifs s1).bind fun b s2 => if b then (elt s2).bind fun y s3 => if acc.length < sizeLine then compL tg ifs elt own (xs.map enc) s3 (acc ++ [y]) else .stuck else compL tg ifs elt own (xs.map enc) s2 acc) = _
      rw [h1]
    rw [unf]
    rcases h2 with ⟨s2, s3, y, e1, e2, e3, e4⟩ | ⟨s2, e1, e3, e4⟩
    · obtain ⟨s', q1, q2⟩ := comp_fold enc f g I xs (f a x) s3 (acc ++ [y]) st' e4 (by rw [List.length_append, List.length_singleton]; omega)
      refine ⟨s', ?_, q2⟩
      rw [e1, Out.bind_ok, if_pos rfl, e2, Out.bind_ok, sizeLine_eq, if_pos (by omega), q1]
      show _ = Out.ok (acc ++ (g a x ++ outL f g (f a x) xs)) s'
      rw [e3, List.append_assoc]
    · obtain ⟨s', q1, q2⟩ := comp_fold enc f g I xs (f a x) s2 acc st' e4 (by omega)
      refine ⟨s', ?_, q2⟩
      rw [e1, Out.bind_ok, if_neg Bool.false_ne_true, q1]
      show _ = Out.ok (acc ++ (g a x ++ outL f g (f a x) xs)) s'
      rw [e3, List.nil_append]
end G
end
section
set_option maxRecDepth 100000
namespace T
open PySem G
/-- the town: only its length matters -/
def tw (t : Nat) : D := .lst (List.replicate t (.int 0))
def mixN (ns : List Int) (k : Nat) : Int := (ns[k % ns.length]?).getD 0
def drawN (ns : List Int) (t : Nat) : Int :=
  let k : Int := (t + 1 : Nat)
  let n0 := (mixN ns (t + 1) + 104729 * k) % 4294967291
  let n1 := n0 * n0 % 4294967279 * 48271 % 4294967291
  let n2 := n1 * n1 % 4294967279 * 69621 % 4294967291
  n1 / 64 * 67108864 + n2 / 64
def draw (ns : List Int) (t : Nat) (m : Int) : Int := drawN ns t % m
theorem at_mod {ns : List Int} (h : ns ≠ []) (k : Nat) : L2.atI ns (((k : Nat) : Int) % (ns.length : Int)) = some (mixN ns k) := by
  have hl : 0 < ns.length := List.length_pos_iff.mpr h
  have hk : k % ns.length < ns.length := Nat.mod_lt _ hl
  have e : ((k : Nat) : Int) % (ns.length : Int) = ((k % ns.length : Nat) : Int) := by simp
  rw [e]
  refine L2.atI_nat ?_
  unfold mixN
  rw [List.getElem?_eq_getElem hk]
  rfl
theorem tw_app {t : Nat} (ht : t < 16777216) : appTo (tw t) (.int 0) = some (tw (t + 1)) := by
  show (if (List.replicate t (D.int 0)).length < sizeLine then some (D.lst (List.replicate t (D.int 0) ++ [.int 0])) else none) = _
  rw [List.length_replicate, sizeLine_eq, if_pos ht, ← List.replicate_succ']
  rfl
theorem tw_len (t : Nat) : lenS (tw t) = some (.int ((t : Nat) : Int)) := by
  show some (D.int ((List.replicate t (D.int 0)).length : Nat)) = _
  rw [List.length_replicate]
theorem tw_lst (t : Nat) : isLst (tw t) = true := rfl
/-- from the first number on -/
theorem draw_tail (s0 s1 : D) (k c m : Int) (hm : 0 < m) : evSs (CSs.cons (.asg (.name 5) (.pr pMod (.cons (.pr pAdd (.cons (.var 4) (.cons (.pr pMul (.cons (.pr (kPr (.int 104729)) .nil) (.cons (.var 3) .nil))) .nil))) (.cons (.pr (kPr (.int 4294967291)) .nil) .nil)))) (.cons (.asg (.name 5) (.pr pMod (.cons (.pr pMul (.cons (.pr pMod (.cons (.pr pMul (.cons (.var 5) (.cons (.var 5) .nil))) (.cons (.pr (kPr (.int 4294967279)) .nil) .nil))) (.cons (.pr (kPr (.int 48271)) .nil) .nil))) (.cons (.pr (kPr (.int 4294967291)) .nil) .nil)))) (.cons (.asg (.name 6) (.pr pMod (.cons (.pr pMul (.cons (.pr pMod (.cons (.pr pMul (.cons (.var 5) (.cons (.var 5) .nil))) (.cons (.pr (kPr (.int 4294967279)) .nil) .nil))) (.cons (.pr (kPr (.int 69621)) .nil) .nil))) (.cons (.pr (kPr (.int 4294967291)) .nil) .nil)))) (.cons (.ret (.pr pMod (.cons (.pr pAdd (.cons (.pr pMul (.cons (.pr pDiv (.cons (.var 5) (.cons (.pr (kPr (.int 64)) .nil) .nil))) (.cons (.pr (kPr (.int 67108864)) .nil) .nil))) (.cons (.pr pDiv (.cons (.var 6) (.cons (.pr (kPr (.int 64)) .nil) .nil))) .nil))) (.cons (.var 2) .nil)))) .nil)))) [s0, s1, .int m, .int k, .int c, .non, .non] =
    .ret (.int ((let n0 := (c + 104729 * k) % 4294967291
      let n1 := n0 * n0 % 4294967279 * 48271 % 4294967291
      let n2 := n1 * n1 % 4294967279 * 69621 % 4294967291
      n1 / 64 * 67108864 + n2 / 64) % m)) [s0, s1, .int m, .int k, .int c, .int (((c + 104729 * k) % 4294967291) * ((c + 104729 * k) % 4294967291) % 4294967279 * 48271 % 4294967291), .int (((((c + 104729 * k) % 4294967291) * ((c + 104729 * k) % 4294967291) % 4294967279 * 48271 % 4294967291) * ((((c + 104729 * k) % 4294967291) * ((c + 104729 * k) % 4294967291) % 4294967279 * 48271 % 4294967291))) % 4294967279 * 69621 % 4294967291)] := by
  have h0 : 0 ≤ (c + 104729 * k) % 4294967291 ∧ (c + 104729 * k) % 4294967291 < 4294967291 := ⟨Int.emod_nonneg _ (by decide), Int.emod_lt_of_pos _ (by decide)⟩
  obtain ⟨n0, e0⟩ : ∃ n0, (c + 104729 * k) % 4294967291 = n0 := ⟨_, rfl⟩
  rw [e0] at h0 ⊢
  obtain ⟨n1, e1⟩ : ∃ n1, n0 * n0 % 4294967279 * 48271 % 4294967291 = n1 := ⟨_, rfl⟩
  have h1 : 0 ≤ n1 ∧ n1 < 4294967291 := by rw [← e1]; exact ⟨Int.emod_nonneg _ (by decide), Int.emod_lt_of_pos _ (by decide)⟩
  obtain ⟨n2, e2⟩ : ∃ n2, n1 * n1 % 4294967279 * 69621 % 4294967291 = n2 := ⟨_, rfl⟩
  have m0 : mulS (.int n0) (.int n0) = some (.int (n0 * n0)) := mul_l (by omega)
  have m1 : mulS (.int n1) (.int n1) = some (.int (n1 * n1)) := mul_l (by omega)
  refine (ss_nx (s1 := [s0, s1, .int m, .int k, .int c, .int n0, .non]) ?_).trans ((ss_nx (s1 := [s0, s1, .int m, .int k, .int c, .int n1, .non]) ?_).trans ((ss_nx (s1 := [s0, s1, .int m, .int k, .int c, .int n1, .int n2]) ?_).trans (ss_ret ?_)))
  · simp [evS, evE, evEs, gt, bnd, Ct.d, pAdd_sem, pMul_sem, pMod_sem, add_int, mul_l, mod_int, e0]
  · simp [evS, evE, evEs, gt, bnd, Ct.d, pAdd_sem, pMul_sem, pMod_sem, add_int, m0, mul_r, mod_int, e1]
  · simp [evS, evE, evEs, gt, bnd, Ct.d, pAdd_sem, pMul_sem, pMod_sem, add_int, m1, mul_r, mod_int, e2]
  · simp [evS, evE, evEs, gt, bnd, Ct.d, pAdd_sem, pMul_sem, pMod_sem, pDiv_sem, add_int, mul_r, mod_int, div_int, hm, e1, e2]
theorem draw_sem (ns : List Int) (t : Nat) (m : Int) (hm : 0 < m) (ht : t < 16777216) : f_law_draw.sem [.scr ns, tw t, .int m] = .ret (.int (draw ns t m)) [tw (t + 1)] := by
  have run : ∀ s : Sg, evSs c_law_draw [.scr ns, tw t, .int m, .non, .non, .non, .non] = .ret (.int (draw ns t m)) s → gt s 1 = tw (t + 1) → f_law_draw.sem [.scr ns, tw t, .int m] = .ret (.int (draw ns t m)) [tw (t + 1)] := by
    intro s h1 h2
    show (match evSs c_law_draw [.scr ns, tw t, .int m, .non, .non, .non, .non] with
      | .nx s => FOut.ret .non (outsAt [1] s)
      | .ret d s => .ret d (outsAt [1] s)
      | .exc x s => .exc x (outsAt [1] s)
      | .stuck => .stuck) = _
    rw [h1]
    show FOut.ret _ [gt s 1] = _
    rw [h2]
  have a1 := tw_app ht
  have a2 := tw_len (t + 1)
  refine run _ ((ss_nx (s1 := [.scr ns, tw (t + 1), .int m, .non, .non, .non, .non]) ?_).trans ((ss_nx (s1 := [.scr ns, tw (t + 1), .int m, .int ((t + 1 : Nat) : Int), .non, .non, .non]) ?_).trans
    ((ss_nx (s1 := [.scr ns, tw (t + 1), .int m, .int ((t + 1 : Nat) : Int), .int 0, .non, .non]) ?_).trans
    ((ss_nx (s1 := [.scr ns, tw (t + 1), .int m, .int ((t + 1 : Nat) : Int), .int (mixN ns (t + 1)), .non, .non]) ?_).trans (draw_tail _ _ _ _ m hm))))) rfl
  · simp [evS, evE, evEs, gt, Ct.d, tw_lst, a1]
  · simp [evS, evE, evEs, gt, bnd, a2]
  · simp [evS, evE, evEs, gt, bnd, Ct.d]
  · by_cases hn : ns = []
    · subst hn
      simp [evS, evT, evSs, gt, tru_scr, mixN]
    · have hl : 0 < (ns.length : Int) := by have := List.length_pos_iff.mpr hn; omega
      have a3 : ixS (.scr ns) (.int (((t + 1 : Nat) : Int) % (ns.length : Int))) = some (.int (mixN ns (t + 1))) := by
        show (L2.atI ns _).map D.int = _
        rw [at_mod hn]
        rfl
      have a4 : lenS (.scr ns) = some (.int ns.length) := rfl
      have a5 : modS (.int ((t + 1 : Nat) : Int)) (.int (ns.length : Int)) = some (.int (((t + 1 : Nat) : Int) % (ns.length : Int))) := mod_int hl
      have a6 : ns.isEmpty = false := by cases ns <;> first | rfl | exact absurd rfl hn
      simp only [evS, evT, gt, List.getElem?_cons_zero, Option.getD_some, tru_scr, a6, optB_some, Out.st_ok, Bool.not_false, if_true]
      refine (ss_nx (s1 := [.scr ns, tw (t + 1), .int m, .int ((t + 1 : Nat) : Int), .int (mixN ns (t + 1)), .non, .non]) ?_).trans rfl
      simp [-Int.natCast_add, -Int.natCast_emod, evS, evE, evEs, gt, bnd, pMod_sem, a4, a5, a3]
end T
end
section
set_option maxRecDepth 100000
namespace T
open PySem G
/-- a place among n -/
def pk (ns : List Int) (t n : Nat) : Nat := (draw ns t n).toNat
theorem draw_lo (ns : List Int) (t : Nat) {m : Int} (hm : 0 < m) : 0 ≤ draw ns t m := Int.emod_nonneg _ (by omega)
theorem draw_hi (ns : List Int) (t : Nat) {m : Int} (hm : 0 < m) : draw ns t m < m := Int.emod_lt_of_pos _ hm
theorem pk_lt (ns : List Int) (t : Nat) {n : Nat} (h : 0 < n) : pk ns t n < n := by
  have h1 := draw_lo ns t (m := n) (by omega)
  have h2 := draw_hi ns t (m := n) (by omega)
  unfold pk
  omega
theorem pk_draw (ns : List Int) (t : Nat) {n : Nat} (h : 0 < n) : draw ns t n = ((pk ns t n : Nat) : Int) := by
  have h1 := draw_lo ns t (m := n) (by omega)
  unfold pk
  omega
/-- a call of draw within an expression: slot 0 the script, slot 1 the town -/
theorem call_draw {c : CE} {s s1 : Sg} {ns : List Int} {t : Nat} {m : Int} (hc : evE c s = .ok (.int m) s1) (h0 : gt s 0 = .scr ns) (h1 : gt s1 1 = tw t) (hm : 0 < m) (ht : t < 16777216) :
    evE (.call f_law_draw (.val (.var 0) (.lent 1 (.val c .nil)))) s = .ok (.int (draw ns t m)) (s1.set 1 (tw (t + 1))) := by
  have e : evAs (.val (.var 0) (.lent 1 (.val c .nil))) s = .ok [.scr ns, .int m] s1 := by
    simp [evAs, evE, h0, hc]
  show (evAs (.val (.var 0) (.lent 1 (.val c .nil))) s).bind _ = _
  rw [e, Out.bind_ok]
  show (match f_law_draw.sem [.scr ns, gt s1 1, .int m] with
    | .ret d o => Out.ok d (putB (.val (.var 0) (.lent 1 (.val c .nil))) o s1)
    | .exc x o => .exc x (putB (.val (.var 0) (.lent 1 (.val c .nil))) o s1)
    | .stuck => .stuck) = _
  rw [h1, draw_sem ns t m hm ht]
  rfl
/-- what a def comes to, from its body -/
theorem fn_ret {body : CSs} {n : Nat} {ls : List Nat} {ds o : List D} {d : D} {s : Sg} (h : evSs body (ds ++ List.replicate (n - ds.length) .non) = .ret d s) (ho : outsAt ls s = o) : evF body n ls ds = .ret d o := by
  unfold evF
  rw [h, ← ho]
theorem pick_gen (ns : List Int) (t n : Nat) (v d : D) (h1 : lenS v = some (.int n)) (hn : 0 < n) (ht : t < 16777216) (h2 : ixS v (.int (pk ns t n)) = some d) : f_law_pick.sem [.scr ns, tw t, v] = .ret d [tw (t + 1)] := by
  have e := call_draw (c := .pr pLen (.cons (.var 2) .nil)) (s := [.scr ns, tw t, v]) (s1 := [.scr ns, tw t, v]) (ns := ns) (t := t) (m := n) (by simp [evE, evEs, gt, h1]) rfl rfl (by omega) ht
  rw [pk_draw ns t hn] at e
  exact fn_ret (n := 3) (ls := [1]) (s := [.scr ns, tw (t + 1), v]) (ss_ret (s_ret (e_pr (es_cons (e_var rfl) (es_cons e es_nil)) h2))) rfl
theorem ix_nat {xs : List D} {j : Nat} {d : D} (h : xs[j]? = some d) : ixS (.lst xs) (.int j) = some d := L2.atI_nat h
theorem ix_natT {xs : List D} {j : Nat} {d : D} (h : xs[j]? = some d) : ixS (.tup xs) (.int j) = some d := L2.atI_nat h
theorem pick_lst (ns : List Int) (t : Nat) (xs : List D) (hx : xs ≠ []) (ht : t < 16777216) : f_law_pick.sem [.scr ns, tw t, .lst xs] = .ret (xs[pk ns t xs.length]?.getD .non) [tw (t + 1)] := by
  have hl : 0 < xs.length := List.length_pos_iff.mpr hx
  have hp := pk_lt ns t hl
  refine pick_gen ns t xs.length (.lst xs) _ rfl hl ht (ix_nat ?_)
  rw [List.getElem?_eq_getElem hp]
  rfl
/-- a call of pick within an expression -/
theorem call_pick {c : CE} {s s1 : Sg} {ns : List Int} {t : Nat} {xs : List D} (hc : evE c s = .ok (.lst xs) s1) (h0 : gt s 0 = .scr ns) (h1 : gt s1 1 = tw t) (hx : xs ≠ []) (ht : t < 16777216) :
    evE (.call f_law_pick (.val (.var 0) (.lent 1 (.val c .nil)))) s = .ok (xs[pk ns t xs.length]?.getD .non) (s1.set 1 (tw (t + 1))) := by
  have e : evAs (.val (.var 0) (.lent 1 (.val c .nil))) s = .ok [.scr ns, .lst xs] s1 := by
    simp [evAs, evE, h0, hc]
  show (evAs (.val (.var 0) (.lent 1 (.val c .nil))) s).bind _ = _
  rw [e, Out.bind_ok]
  show (match f_law_pick.sem [.scr ns, gt s1 1, .lst xs] with
    | .ret d o => Out.ok d (putB (.val (.var 0) (.lent 1 (.val c .nil))) o s1)
    | .exc x o => .exc x (putB (.val (.var 0) (.lent 1 (.val c .nil))) o s1)
    | .stuck => .stuck) = _
  rw [h1, pick_lst ns t xs hx ht]
  rfl
end T
end
section
set_option maxRecDepth 100000
namespace T
open PySem G
theorem eq_int (i j : Int) : eqS (.int i) (.int j) = some (.bl (i == j)) := rfl
theorem ne_int (i j : Int) : neS (.int i) (.int j) = some (.bl (!(i == j))) := rfl
abbrev Terms := List (Str × Int)
def encP (p : Str × Int) : D := .tup [.str p.1, .int p.2]
def encT (ts : Terms) : D := .tup (ts.map encP)
def encF (f : Int × Terms) : D := .tup [.int f.1, encT f.2]
def gi (xs : List Int) (j : Nat) : Int := (xs[j]?).getD 0
theorem gi_int {xs : List Int} {j : Nat} (h : j < xs.length) : ((xs.map D.int)[j]?).getD .non = .int (gi xs j) := by
  unfold gi
  rw [List.getElem?_map, List.getElem?_eq_getElem h]
  rfl
def manyL (ns : List Int) (t : Nat) : List Int := [1, 1, -1, 9, -9, 1 + draw ns t 8]
def fStep (ns : List Int) (th : Int) (a : Nat × Terms) (c : Str) : Nat × Terms :=
  if draw ns a.1 th = 0 then (a.1 + 3, a.2 ++ [(c, gi (manyL ns (a.1 + 1)) (pk ns (a.1 + 2) 6))]) else (a.1 + 1, a.2)
def thinV (ns : List Int) (t : Nat) : Int := gi [2, 6, 12, 30] (pk ns t 4)
def fRun (ns : List Int) (t : Nat) (cells : List Str) : Nat × Terms := cells.foldl (fStep ns (thinV ns t)) (t + 1, [])
def fNum (ns : List Int) (T : Nat) : Int := gi [0, 0, 1, 99, -99, draw ns T 199 - 99] (pk ns (T + 1) 6)
def formV (ns : List Int) (t : Nat) (cells : List Str) : Int × Terms := (fNum ns (fRun ns t cells).1, (fRun ns t cells).2)
def formT (ns : List Int) (t : Nat) (cells : List Str) : Nat := (fRun ns t cells).1 + 2
theorem fStep_t (ns : List Int) (th : Int) (a : Nat × Terms) (c : Str) : (fStep ns th a c).1 ≤ a.1 + 3 ∧ (fStep ns th a c).2.length ≤ a.2.length + 1 := by
  unfold fStep
  split
  · simp
  · simp
theorem fFold_t (ns : List Int) (th : Int) : ∀ (cells : List Str) (a : Nat × Terms), (cells.foldl (fStep ns th) a).1 ≤ a.1 + 3 * cells.length
  | [], a => by simp
  | c :: cs, a => by
    rw [List.foldl_cons, List.length_cons]
    have h1 := (fStep_t ns th a c).1
    have h2 := fFold_t ns th cs (fStep ns th a c)
    omega
theorem fRun_t (ns : List Int) (t : Nat) (cells : List Str) : (fRun ns t cells).1 ≤ t + 1 + 3 * cells.length := fFold_t ns _ cells _
theorem thin_pos (ns : List Int) (t : Nat) : 0 < thinV ns t := by
  have h := pk_lt ns t (n := 4) (by omega)
  unfold thinV gi
  match pk ns t 4, h with
  | 0, _ => decide
  | 1, _ => decide
  | 2, _ => decide
  | 3, _ => decide
theorem charsD_map (z : Str) : charsD z = (z.cps.toList.map fun c => (⟨#[c]⟩ : Str)).map D.str := by
  unfold charsD
  rw [List.map_map]
  rfl
def chars (z : Str) : List Str := z.cps.toList.map fun c => ⟨#[c]⟩
def I2 (ns : List Int) (z : Str) (th : Int) (B : Nat) (a : Nat × Terms) (s : Sg) : Prop := a.1 < 16777000 ∧ a.2.length ≤ B ∧ ∃ x y, s = [.scr ns, tw a.1, .str z, encT a.2, .int th, x, y]
theorem pick_ints {c : CE} {s s1 : Sg} {ns : List Int} {t : Nat} {xs : List Int} (hc : evE c s = .ok (.lst (xs.map .int)) s1) (h0 : gt s 0 = .scr ns) (h1 : gt s1 1 = tw t) (hx : xs ≠ []) (ht : t < 16777216) :
    evE (.call f_law_pick (.val (.var 0) (.lent 1 (.val c .nil)))) s = .ok (.int (gi xs (pk ns t xs.length))) (s1.set 1 (tw (t + 1))) := by
  have h := call_pick hc h0 h1 (by simpa using hx) ht
  rw [h, List.length_map, gi_int (pk_lt ns t (List.length_pos_iff.mpr hx))]
theorem form_body (ns : List Int) (z : Str) (th : Int) (hth : 0 < th) (t : Nat) (ts : Terms) (c : Str) (y : D) (ht : t < 16777000) (hl : ts.length < 16777000) :
    ∃ y', evSs b_law_form_1 [.scr ns, tw t, .str z, encT ts, .int th, .str c, y] =
      .nx [.scr ns, tw (fStep ns th (t, ts) c).1, .str z, encT (fStep ns th (t, ts) c).2, .int th, .str c, y'] := by
  have e1 := call_draw (c := .var 4) (s := [.scr ns, tw t, .str z, encT ts, .int th, .str c, y]) (ns := ns) (t := t) (m := th) (e_var rfl) rfl rfl hth (by omega)
  have et := t_pr (P := pEq) (es_cons e1 (es_cons e_ki es_nil)) (eq_int _ 0) (tru_bl _)
  unfold fStep
  by_cases h : draw ns t th = 0
  · rw [if_pos h]
    refine ⟨.int (gi (manyL ns (t + 1)) (pk ns (t + 2) 6)), ?_⟩
    refine (ss_nx ((s_iff et).trans ?_)).trans rfl
    have hb : (draw ns t th == 0) = true := by rw [h]; rfl
    rw [if_pos hb]
    have e2 := call_draw (c := .pr (kPr (.int 8)) .nil) (s := [.scr ns, tw (t + 1), .str z, encT ts, .int th, .str c, y]) (ns := ns) (t := t + 1) (m := 8) e_ki rfl rfl (by decide) (by omega)
    have e3 := pick_ints (xs := manyL ns (t + 1)) (c := .pr pLst (.cons (.pr (kPr (.int 1)) .nil) (.cons (.pr (kPr (.int 1)) .nil) (.cons (.pr pNeg (.cons (.pr (kPr (.int 1)) .nil) .nil)) (.cons (.pr (kPr (.int 9)) .nil) (.cons (.pr pNeg (.cons (.pr (kPr (.int 9)) .nil) .nil)) (.cons (.pr pAdd (.cons (.pr (kPr (.int 1)) .nil) (.cons (.call f_law_draw (.val (.var 0) (.lent 1 (.val (.pr (kPr (.int 8)) .nil) .nil)))) .nil))) .nil)))))))
      (e_pr (es_cons e_ki (es_cons e_ki (es_cons (e_pr (es_cons e_ki es_nil) (neg_int _)) (es_cons e_ki (es_cons (e_pr (es_cons e_ki es_nil) (neg_int _)) (es_cons (e_pr (es_cons e_ki (es_cons e2 es_nil)) (add_int _ _)) es_nil)))))) (pLst_of _ (by simp))) rfl rfl (by simp [manyL]) (t := t + 2) (by omega)
    refine (ss_nx (s_asg e3 rfl)).trans ?_
    refine (ss_nx (s_asg (e_pr (es_cons (e_var rfl) (es_cons (e_pr (es_cons (e_pr (es_cons (e_var rfl) (es_cons (e_var rfl) es_nil)) (pTup2 _ _)) es_nil) (pTup1 _)) es_nil)) (d := encT (ts ++ [(c, gi (manyL ns (t + 1)) (pk ns (t + 2) 6))])) ?_) rfl)).trans rfl
    show (if (ts.map encP).length + 1 ≤ sizeLine then some (D.tup (ts.map encP ++ [_])) else none) = _
    rw [sizeLine_eq, List.length_map, if_pos (by omega)]
    unfold encT
    rw [List.map_append]
    rfl
  · rw [if_neg h]
    refine ⟨y, ?_⟩
    refine (ss_nx ((s_iff et).trans ?_)).trans rfl
    have hb : ¬ (draw ns t th == 0) = true := by simpa using h
    rw [if_neg hb]
    rfl
theorem fRun_l (ns : List Int) (th : Int) : ∀ (cells : List Str) (a : Nat × Terms), (cells.foldl (fStep ns th) a).2.length ≤ a.2.length + cells.length
  | [], a => by simp
  | c :: cs, a => by
    rw [List.foldl_cons, List.length_cons]
    have h1 := (fStep_t ns th a c).2
    have h2 := fRun_l ns th cs (fStep ns th a c)
    omega
/-- what one comes to, cell by cell -/
def FI (ns : List Int) (z : Str) (th : Int) (n : Nat) (a : Nat × Terms) (s : Sg) : Prop := ∃ k : Nat, a.1 + 3 * k < 16777000 ∧ a.2.length + k < 16777000 ∧ k = n ∧ ∃ x y, s = [.scr ns, tw a.1, .str z, encT a.2, .int th, x, y]
theorem seq_str (z : Str) : seqS (.str z) = some ((chars z).map D.str) := by
  show some (charsD z) = _
  rw [charsD_map]
  rfl
/-- the walk over the cells -/
theorem form_loop (ns : List Int) (z : Str) (th : Int) (hth : 0 < th) (body : Sg → SOut) (hb : ∀ (t : Nat) (ts : Terms) (c : Str) (y : D), t < 16777000 → ts.length < 16777000 → ∃ y', body [.scr ns, tw t, .str z, encT ts, .int th, .str c, y] = .nx [.scr ns, tw (fStep ns th (t, ts) c).1, .str z, encT (fStep ns th (t, ts) c).2, .int th, .str c, y']) :
    ∀ (cells : List Str) (a : Nat × Terms) (x y : D), a.1 + 3 * cells.length < 16777000 → a.2.length + cells.length < 16777000 → ∃ x' y', forL (.name 5) body (cells.map D.str) [.scr ns, tw a.1, .str z, encT a.2, .int th, x, y] =
      .nx [.scr ns, tw (cells.foldl (fStep ns th) a).1, .str z, encT (cells.foldl (fStep ns th) a).2, .int th, x', y']
  | [], a, x, y, _, _ => ⟨x, y, rfl⟩
  | c :: cs, a, x, y, h1, h2 => by
    rw [List.length_cons] at h1 h2
    obtain ⟨y1, e1⟩ := hb a.1 a.2 c y (by omega) (by omega)
    have k1 := fStep_t ns th a c
    obtain ⟨x', y', e2⟩ := form_loop ns z th hth body hb cs (fStep ns th a c) (.str c) y1 (by omega) (by omega)
    refine ⟨x', y', ?_⟩
    rw [List.foldl_cons, ← e2]
    show (match body [.scr ns, tw a.1, .str z, encT a.2, .int th, .str c, y] with
      | .nx s2 => forL (.name 5) body (cs.map D.str) s2
      | o => o) = _
    rw [e1]
theorem form_sem (ns : List Int) (t : Nat) (z : Str) (ht : t + 3 * (chars z).length < 16776000) : f_law_form.sem [.scr ns, tw t, .str z] = .ret (encF (formV ns t (chars z))) [tw (formT ns t (chars z))] := by
  have hT := fRun_t ns t (chars z)
  have e1 := pick_ints (xs := [2, 6, 12, 30]) (c := .pr pLst (.cons (.pr (kPr (.int 2)) .nil) (.cons (.pr (kPr (.int 6)) .nil) (.cons (.pr (kPr (.int 12)) .nil) (.cons (.pr (kPr (.int 30)) .nil) .nil)))))
    (s := [.scr ns, tw t, .str z, .non, .non, .non, .non]) (ns := ns) (t := t) (e_pr (es_cons e_ki (es_cons e_ki (es_cons e_ki (es_cons e_ki es_nil)))) (pLst_of _ (by simp))) rfl rfl (by simp) (by omega)
  obtain ⟨x', y', e2⟩ := form_loop ns z (thinV ns t) (thin_pos ns t) (fun s2 => evSs b_law_form_1 s2) (fun t1 ts c y h1 h2 => form_body ns z (thinV ns t) (thin_pos ns t) t1 ts c y h1 h2) (chars z) (t + 1, []) .non .non (by simp; omega) (by simp; omega)
  obtain ⟨T, eT⟩ : ∃ T, (fRun ns t (chars z)).1 = T := ⟨_, rfl⟩
  have hT2 : T ≤ t + 1 + 3 * (chars z).length := by rw [← eT]; exact hT
  have e2 : forL (.name 5) (fun s2 => evSs b_law_form_1 s2) ((chars z).map D.str) [.scr ns, tw (t + 1), .str z, .tup [], .int (thinV ns t), .non, .non] = .nx [.scr ns, tw T, .str z, encT (fRun ns t (chars z)).2, .int (thinV ns t), x', y'] := by
    rw [← eT]
    exact e2
  have e4 := call_draw (c := .pr (kPr (.int 199)) .nil) (s := [.scr ns, tw T, .str z, encT (fRun ns t (chars z)).2, .int (thinV ns t), x', y']) (ns := ns) (t := T) (m := 199) e_ki rfl rfl (by decide) (by omega)
  have e3 := pick_ints (xs := [0, 0, 1, 99, -99, draw ns T 199 - 99]) (c := .pr pLst (.cons (.pr (kPr (.int 0)) .nil) (.cons (.pr (kPr (.int 0)) .nil) (.cons (.pr (kPr (.int 1)) .nil) (.cons (.pr (kPr (.int 99)) .nil) (.cons (.pr pNeg (.cons (.pr (kPr (.int 99)) .nil) .nil)) (.cons (.pr pSub (.cons (.call f_law_draw (.val (.var 0) (.lent 1 (.val (.pr (kPr (.int 199)) .nil) .nil)))) (.cons (.pr (kPr (.int 99)) .nil) .nil))) .nil)))))))
    (e_pr (es_cons e_ki (es_cons e_ki (es_cons e_ki (es_cons e_ki (es_cons (e_pr (es_cons e_ki es_nil) (neg_int _)) (es_cons (e_pr (es_cons e4 (es_cons e_ki es_nil)) (sub_int _ _)) es_nil)))))) (pLst_of _ (by simp))) rfl rfl (by simp) (t := T + 1) (by omega)
  have key : evSs c_law_form [.scr ns, tw t, .str z, .non, .non, .non, .non] = .ret (encF (formV ns t (chars z))) [.scr ns, tw (T + 2), .str z, encT (fRun ns t (chars z)).2, .int (thinV ns t), x', y'] := by
    refine (ss_nx (s_par (es_cons (e_pr es_nil pTup0) (es_cons e1 es_nil)))).trans ?_
    refine (ss_nx ((s_for (es_cons (e_var rfl) es_nil) (seq_str z)).trans e2)).trans ?_
    refine (ss_ret (s_ret (e_pr (es_cons e3 (es_cons (e_var rfl) es_nil)) (pTup2 _ _)))).trans ?_
    unfold formV fNum encF
    rw [eT]
    rfl
  refine fn_ret (n := 7) (ls := [1]) key ?_
  unfold formT
  rw [eT]
  rfl
end T
end
section
set_option maxRecDepth 100000
namespace T
open PySem G
/-- a table of numbers -/
def kvP (p : Str × Int) : Ky × D := (.inr p.1, .int p.2)
def encK (kvs : Terms) : D := .dk (kvs.map kvP)
def lk (c : Str) : Terms → Option Int
  | [] => none
  | p :: r => if p.1 = c then some p.2 else lk c r
theorem lk_cons (c : Str) (p : Str × Int) (r : Terms) : lk c (p :: r) = if p.1 = c then some p.2 else lk c r := rfl
def lk0 (c : Str) (kvs : Terms) : Int := (lk c kvs).getD 0
theorem look_enc (c : Str) : ∀ kvs : Terms, G.look (Sum.inr c : Ky) (kvs.map kvP) = (lk c kvs).map D.int
  | [] => rfl
  | p :: r => by
    rw [List.map_cons]
    show G.look (Sum.inr c : Ky) ((Sum.inr p.1, D.int p.2) :: r.map kvP) = _
    rw [look_cons, look_enc c r, lk_cons]
    by_cases h : p.1 = c
    · rw [if_pos h, if_pos (by rw [h])]
      rfl
    · rw [if_neg h, if_neg (by intro z; exact h (Sum.inr.inj z))]
theorem at_enc (c : Str) (kvs : Terms) : dictAt (encK kvs) (.str c) = some ((lk c kvs).map D.int) := by
  show some (G.look (Sum.inr c : Ky) (kvs.map kvP)) = _
  rw [look_enc]
theorem ix_enc {c : Str} {kvs : Terms} {v : Int} (h : lk c kvs = some v) : ixS (encK kvs) (.str c) = some (.int v) := by
  show (match dictAt (encK kvs) (.str c) with
    | some o => o
    | none => none) = _
  rw [at_enc, h]
  rfl
theorem get_enc (c : Str) (kvs : Terms) (i : Int) : mGet.sem (encK kvs) [.str c, .int i] = some (.int ((lk c kvs).getD i)) := by
  rw [mGet_sem, at_enc]
  cases lk c kvs <;> rfl
theorem lk_mem {c : Str} : ∀ {kvs : Terms}, c ∈ kvs.map (·.1) → ∃ v, lk c kvs = some v
  | [], h => by simp at h
  | p :: r, h => by
    rw [lk_cons]
    by_cases e : p.1 = c
    · exact ⟨_, by rw [if_pos e]⟩
    · rw [if_neg e]
      rw [List.map_cons, List.mem_cons] at h
      exact lk_mem (h.resolve_left (Ne.symm e))
theorem keys_enc (kvs : Terms) : keysS (kvs.map kvP) = some (kvs.map (·.1)) := by
  unfold keysS strsOf
  induction kvs with
  | nil => rfl
  | cons p r ih =>
    rw [List.map_cons, List.map_cons, List.map_cons, List.mapM_cons]
    rw [ih]
    rfl
theorem sort_enc {kvs : Terms} (h : kvs.length < 64) : sortS (encK kvs) = some (.lst ((sortStr (kvs.map (·.1))).map .str)) := by
  show (match keysS (kvs.map kvP) with
    | some ss => if ss.length < 64 then some (D.lst ((sortStr ss).map .str)) else none
    | none => match keysI (kvs.map kvP) with
      | some ns => if ns.length < 64 then some (.lst ((sortInt ns).map .int)) else none
      | none => none) = _
  rw [keys_enc]
  dsimp only
  rw [if_pos (by rw [List.length_map]; exact h)]
/-- the terms of a table, in order -/
def termsOf (kvs : Terms) : Terms := (sortStr (kvs.map (·.1))).filterMap fun c => if lk0 c kvs = 0 then none else some (c, lk0 c kvs)
theorem out_terms (kvs : Terms) : ∀ cs : List Str, outL (fun (a : Unit) (_ : Str) => a) (fun _ c => if lk0 c kvs = 0 then [] else [encP (c, lk0 c kvs)]) () cs = (cs.filterMap fun c => if lk0 c kvs = 0 then none else some (c, lk0 c kvs)).map encP
  | [] => rfl
  | c :: cs => by
    show (if lk0 c kvs = 0 then [] else [encP (c, lk0 c kvs)]) ++ outL _ _ () cs = _
    rw [out_terms kvs cs, List.filterMap_cons]
    by_cases h : lk0 c kvs = 0
    · rw [if_pos h, if_pos h]; rfl
    · rw [if_neg h, if_neg h]; rfl
end T
end
section
set_option maxRecDepth 100000
namespace T
open PySem G
def putT (c : Str) (v : Int) (kvs : Terms) : Terms := if (kvs.any fun p => decide (p.1 = c)) = true then kvs.map (fun p => if p.1 = c then (p.1, v) else p) else kvs ++ [(c, v)]
def mergeT (kvs ts : Terms) : Terms := ts.foldl (fun a p => putT p.1 p.2 a) kvs
theorem put_enc (c : Str) (v : Int) (kvs : Terms) : G.putK (Sum.inr c : Ky) (.int v) (kvs.map kvP) = (putT c v kvs).map kvP := by
  unfold G.putK putT
  have h1 : ((kvs.map kvP).any fun p => decide (p.1 = (Sum.inr c : Ky))) = kvs.any fun p => decide (p.1 = c) := by
    rw [List.any_map]
    congr 1
    funext p
    show decide ((Sum.inr p.1 : Ky) = Sum.inr c) = decide (p.1 = c)
    by_cases h : p.1 = c
    · rw [h]; simp
    · simp [h]
  rw [h1]
  by_cases h : (kvs.any fun p => decide (p.1 = c)) = true
  · rw [if_pos h, if_pos h, List.map_map, List.map_map]
    apply List.map_congr_left
    intro p _
    show (if (Sum.inr p.1 : Ky) = Sum.inr c then ((Sum.inr p.1 : Ky), D.int v) else kvP p) = kvP (if p.1 = c then (p.1, v) else p)
    by_cases e : p.1 = c
    · rw [if_pos e, if_pos (by rw [e])]; rfl
    · rw [if_neg e, if_neg (by intro z; exact e (Sum.inr.inj z))]
  · rw [if_neg h, if_neg h, List.map_append]
    rfl
theorem putT_len (c : Str) (v : Int) (kvs : Terms) : (putT c v kvs).length ≤ kvs.length + 1 := by
  unfold putT
  split
  · rw [List.length_map]; omega
  · simp
theorem mergeT_len : ∀ (ts kvs : Terms), (mergeT kvs ts).length ≤ kvs.length + ts.length
  | [], kvs => by simp [mergeT]
  | p :: ts, kvs => by
    show (mergeT (putT p.1 p.2 kvs) ts).length ≤ _
    have h1 := mergeT_len ts (putT p.1 p.2 kvs)
    have h2 := putT_len p.1 p.2 kvs
    rw [List.length_cons]
    omega
theorem merge_enc : ∀ (ts kvs : Terms), mergeD (kvs.map kvP) (ts.map kvP) = (mergeT kvs ts).map kvP
  | [], kvs => rfl
  | p :: ts, kvs => by
    show mergeD (G.putK (Sum.inr p.1 : Ky) (.int p.2) (kvs.map kvP)) (ts.map kvP) = (mergeT (putT p.1 p.2 kvs) ts).map kvP
    rw [put_enc, merge_enc ts]
theorem pairs_enc : ∀ ts : Terms, pairsD (ts.map encP) = some (ts.map kvP)
  | [] => rfl
  | p :: ts => by
    show (match pairD (encP p), pairsD (ts.map encP) with
      | some q, some ps => some (q :: ps)
      | _, _ => none) = _
    rw [pairs_enc ts]
    rfl
theorem dict_enc (ts : Terms) : dictS (encT ts) = some (encK (mergeT [] ts)) := by
  show (pairsD (ts.map encP)).map (fun ps => D.dk (mergeD [] ps)) = _
  rw [pairs_enc]
  show some (D.dk (mergeD (([] : Terms).map kvP) (ts.map kvP))) = _
  rw [merge_enc]
  rfl
theorem set_enc (c : Str) (v : Int) (kvs : Terms) (h : kvs.length < 16777216) : setAt (encK kvs) (.str c) (.int v) = some (encK (putT c v kvs)) := by
  show (if (kvs.map kvP).length < sizeLine then some (D.dk (G.putK (Sum.inr c : Ky) (.int v) (kvs.map kvP))) else none) = _
  rw [sizeLine_eq, List.length_map, if_pos h, put_enc]
  rfl
/-- the sum's table -/
def addT (kvs ts : Terms) : Terms := ts.foldl (fun a p => putT p.1 (lk0 p.1 a + p.2) a) kvs
def plusV (f g : Int × Terms) : Int × Terms := (f.1 + g.1, termsOf (addT (mergeT [] f.2) g.2))
theorem addT_len : ∀ (ts kvs : Terms), (addT kvs ts).length ≤ kvs.length + ts.length
  | [], kvs => by simp [addT]
  | p :: ts, kvs => by
    show (addT (putT p.1 (lk0 p.1 kvs + p.2) kvs) ts).length ≤ _
    have h1 := addT_len ts (putT p.1 (lk0 p.1 kvs + p.2) kvs)
    have h2 := putT_len p.1 (lk0 p.1 kvs + p.2) kvs
    rw [List.length_cons]
    omega
theorem ix0 (a b : D) : ixS (.tup [a, b]) (.int 0) = some a := rfl
theorem ix1 (a b : D) : ixS (.tup [a, b]) (.int 1) = some b := rfl
theorem seq_encT (ts : Terms) : seqS (encT ts) = some (ts.map encP) := rfl
theorem out_map {β : Type} (e : β → D) : ∀ xs : List β, outL (fun (a : Unit) (_ : β) => a) (fun _ x => [e x]) () xs = xs.map e
  | [] => rfl
  | x :: xs => by
    show [e x] ++ outL _ _ () xs = _
    rw [out_map e xs]
    rfl
def timesV (f : Int × Terms) (m : Int) : Int × Terms := (f.1 * m, termsOf (mergeT [] (f.2.map fun p => (p.1, p.2 * m))))
theorem mul_b {i j : Int} (h : mulB i j = true) : mulS (.int i) (.int j) = some (.int (i * j)) := if_pos h
theorem mulB_r {i j : Int} (h : j.natAbs < 18446744073709551616) : mulB i j = true := by
  unfold mulB
  simp [h]
theorem mulB_l {i j : Int} (h : i.natAbs < 18446744073709551616) : mulB i j = true := by
  unfold mulB
  simp [h]
def justV (c : Str) : Int × Terms := (0, [(c, 1)])
/-- the worth of a form -/
def worthV (f : Int × Terms) (w : Str → Int) : Int := f.1 + (f.2.map fun p => p.2 * w p.1).sum
theorem ints_enc : ∀ ns : List Int, intsOf (ns.map .int) = some ns
  | [] => rfl
  | n :: ns => by
    have ih := ints_enc ns
    unfold intsOf at ih ⊢
    rw [List.map_cons, List.mapM_cons, ih]
    rfl
end T
end
section
set_option maxRecDepth 100000
namespace T
open PySem G
abbrev Form := Int × Terms
/-- a table of forms -/
def kvF (p : Str × Form) : Ky × D := (.inr p.1, encF p.2)
def encM (kvs : List (Str × Form)) : D := .dk (kvs.map kvF)
def lkM (c : Str) : List (Str × Form) → Option Form
  | [] => none
  | p :: r => if p.1 = c then some p.2 else lkM c r
theorem lkM_cons (c : Str) (p : Str × Form) (r : List (Str × Form)) : lkM c (p :: r) = if p.1 = c then some p.2 else lkM c r := rfl
theorem lookM (c : Str) : ∀ kvs : List (Str × Form), G.look (Sum.inr c : Ky) (kvs.map kvF) = (lkM c kvs).map encF
  | [] => rfl
  | p :: r => by
    rw [List.map_cons]
    show G.look (Sum.inr c : Ky) ((Sum.inr p.1, encF p.2) :: r.map kvF) = _
    rw [look_cons, lookM c r, lkM_cons]
    by_cases h : p.1 = c
    · rw [if_pos h, if_pos (by rw [h])]
      rfl
    · rw [if_neg h, if_neg (by intro z; exact h (Sum.inr.inj z))]
theorem getM (c : Str) (kvs : List (Str × Form)) (f : Form) : mGet.sem (encM kvs) [.str c, encF f] = some (encF ((lkM c kvs).getD f)) := by
  have e : dictAt (encM kvs) (.str c) = some ((lkM c kvs).map encF) := by
    show some (G.look (Sum.inr c : Ky) (kvs.map kvF)) = _
    rw [lookM]
  rw [mGet_sem, e]
  cases lkM c kvs <;> rfl
/-- put_in, step by step -/
def putStep (kvs : List (Str × Form)) (a : Form) (p : Str × Int) : Form := plusV a (timesV ((lkM p.1 kvs).getD (justV p.1)) p.2)
def putV (f : Form) (kvs : List (Str × Form)) : Form := f.2.foldl (putStep kvs) (f.1, [])
end T
end
section
set_option maxRecDepth 100000
namespace T
open PySem G
/-! ### forms as functions -/
def SK (l : Terms) : Prop := l.Pairwise fun a b => strLe a.1 b.1 = true ∧ a.1 ≠ b.1
structure Nrm (l : Terms) : Prop where
  s : SK l
  z : ∀ p ∈ l, p.2 ≠ 0
theorem lk_mem2 {c : Str} {v : Int} : ∀ {l : Terms}, lk c l = some v → (c, v) ∈ l
  | [], h => by cases h
  | p :: r, h => by
    rw [lk_cons] at h
    by_cases e : p.1 = c
    · rw [if_pos e] at h
      cases h
      rw [← e]
      exact List.mem_cons_self
    · rw [if_neg e] at h
      exact List.mem_cons_of_mem _ (lk_mem2 h)
theorem lk_of {l : Terms} (h : (l.map (·.1)).Nodup) : ∀ p ∈ l, lk p.1 l = some p.2 := by
  induction l with
  | nil => intro p hp; cases hp
  | cons q r ih =>
    intro p hp
    rw [List.map_cons, List.nodup_cons] at h
    rw [lk_cons]
    rcases List.mem_cons.mp hp with e | hp
    · rw [e, if_pos rfl]
    · have : q.1 ≠ p.1 := fun z => h.1 (by rw [z]; exact List.mem_map_of_mem hp)
      rw [if_neg this]
      exact ih h.2 p hp
theorem SK.nodup {l : Terms} (h : SK l) : (l.map (·.1)).Nodup := by
  rw [List.Nodup, List.pairwise_map]
  exact h.imp fun h => h.2
theorem nodup_of_keys {l : Terms} (h : (l.map (·.1)).Nodup) : l.Nodup := by
  rw [List.Nodup, List.pairwise_map] at h
  exact h.imp fun h e => h (by rw [e])
theorem lk0_nz {l : Terms} {c : Str} (h : lk0 c l ≠ 0) : lk c l = some (lk0 c l) := by
  unfold lk0 at h ⊢
  cases e : lk c l with
  | none => rw [e] at h; exact absurd rfl h
  | some v => rfl
theorem mem_iff {l : Terms} (h : Nrm l) (p : Str × Int) : p ∈ l ↔ lk0 p.1 l = p.2 ∧ p.2 ≠ 0 := by
  constructor
  · intro hp
    refine ⟨?_, h.z p hp⟩
    unfold lk0
    rw [lk_of h.s.nodup p hp]
    rfl
  · rintro ⟨h1, h2⟩
    have := lk_mem2 (lk0_nz (l := l) (c := p.1) (by rw [h1]; exact h2))
    rw [h1] at this
    exact this
theorem nrm_ext {l m : Terms} (h1 : Nrm l) (h2 : Nrm m) (e : ∀ c, lk0 c l = lk0 c m) : l = m := by
  have hp : l.Perm m := by
    rw [List.perm_ext_iff_of_nodup (nodup_of_keys h1.s.nodup) (nodup_of_keys h2.s.nodup)]
    intro p
    rw [mem_iff h1, mem_iff h2, e]
  refine List.Perm.eq_of_pairwise (le := fun (a b : Str × Int) => strLe a.1 b.1 = true ∧ a.1 ≠ b.1) ?_ h1.s h2.s hp
  intro a b _ _ x y
  exact absurd (strLe_anti _ _ x.1 y.1) x.2
/-- a table's terms -/
theorem sort_pw {kvs : Terms} (h : (kvs.map (·.1)).Nodup) : (sortStr (kvs.map (·.1))).Pairwise fun a b => strLe a b = true ∧ a ≠ b := by
  have h1 : (sortStr (kvs.map (·.1))).Pairwise fun a b => strLe a b = true := List.pairwise_mergeSort strLe_trans strLe_total _
  have h2 : (sortStr (kvs.map (·.1))).Nodup := (List.mergeSort_perm _ _).nodup_iff.mpr h
  exact h1.and h2
theorem termsOf_nrm {kvs : Terms} (h : (kvs.map (·.1)).Nodup) : Nrm (termsOf kvs) := by
  constructor
  · unfold SK termsOf
    rw [List.pairwise_filterMap]
    refine (sort_pw h).imp fun {a b} hab p hp q hq => ?_
    split at hp
    · cases hp
    · split at hq
      · cases hq
      · cases hp; cases hq
        exact hab
  · intro p hp
    unfold termsOf at hp
    obtain ⟨c, hc, e⟩ := List.mem_filterMap.mp hp
    split at e
    · cases e
    · rename_i hz
      cases e
      exact hz
theorem termsOf_lk {kvs : Terms} (h : (kvs.map (·.1)).Nodup) (c : Str) : lk0 c (termsOf kvs) = lk0 c kvs := by
  have hn := termsOf_nrm h
  by_cases hz : lk0 c kvs = 0
  · rw [hz]
    by_cases hy : lk0 c (termsOf kvs) = 0
    · exact hy
    · exfalso
      have hm := lk_mem2 (lk0_nz hy)
      unfold termsOf at hm
      obtain ⟨d, hd, e⟩ := List.mem_filterMap.mp hm
      split at e
      · cases e
      · rename_i hq
        injection e with e
        injection e with e1 e2
        subst e1
        exact hq hz
  · have hm : (c, lk0 c kvs) ∈ termsOf kvs := by
      unfold termsOf
      refine List.mem_filterMap.mpr ⟨c, ?_, by rw [if_neg hz]⟩
      refine (List.mergeSort_perm _ _).mem_iff.mpr ?_
      exact List.mem_map_of_mem (f := fun p : Str × Int => p.1) (lk_mem2 (lk0_nz hz))
    exact ((mem_iff hn _).mp hm).1
end T
end
section
set_option maxRecDepth 100000
namespace T
open PySem G
/-! ### coefficients -/
abbrev ND (l : Terms) : Prop := (l.map (·.1)).Nodup
theorem lk_app (d : Str) : ∀ (l m : Terms), lk d (l ++ m) = match lk d l with | some v => some v | none => lk d m
  | [], m => rfl
  | p :: r, m => by
    rw [List.cons_append, lk_cons, lk_cons]
    by_cases h : p.1 = d
    · rw [if_pos h, if_pos h]
    · rw [if_neg h, if_neg h, lk_app d r m]
theorem lk_none {d : Str} : ∀ {l : Terms}, (∀ p ∈ l, p.1 ≠ d) → lk d l = none
  | [], _ => rfl
  | p :: r, h => by
    rw [lk_cons, if_neg (h p List.mem_cons_self)]
    exact lk_none fun q hq => h q (List.mem_cons_of_mem _ hq)
theorem any_key (c : Str) (l : Terms) : (l.any fun p => decide (p.1 = c)) = true ↔ ∃ p ∈ l, p.1 = c := by
  rw [List.any_eq_true]
  constructor
  · rintro ⟨p, hp, h⟩; exact ⟨p, hp, of_decide_eq_true h⟩
  · rintro ⟨p, hp, h⟩; exact ⟨p, hp, decide_eq_true h⟩
theorem lk_upd (c : Str) (v : Int) (d : Str) : ∀ (l : Terms), lk d (l.map fun p => if p.1 = c then (p.1, v) else p) = if d = c then (lk d l).map (fun _ => v) else lk d l
  | [] => by by_cases h : d = c <;> simp [lk, h]
  | p :: r => by
    rw [List.map_cons, lk_cons, lk_cons, lk_upd c v d r]
    by_cases h1 : p.1 = c <;> by_cases h2 : p.1 = d
    · subst h1; subst h2; simp
    · simp only [h1, if_true, if_pos]
      rw [← h1]
      simp [h2]
    · have : ¬ d = c := fun e => h1 (h2.trans e)
      simp [h1, h2, this]
    · simp [h1, h2]
theorem lk_putT (c : Str) (v : Int) (l : Terms) (d : Str) : lk d (putT c v l) = if d = c then some v else lk d l := by
  unfold putT
  by_cases h : (l.any fun p => decide (p.1 = c)) = true
  · rw [if_pos h, lk_upd]
    by_cases e : d = c
    · rw [if_pos e, if_pos e]
      obtain ⟨p, hp, q⟩ := (any_key c l).mp h
      have : c ∈ l.map (·.1) := by rw [← q]; exact List.mem_map_of_mem hp
      obtain ⟨w, hw⟩ := lk_mem this
      rw [e, hw]; rfl
    · rw [if_neg e, if_neg e]
  · rw [if_neg h, lk_app]
    have hn : ∀ p ∈ l, p.1 ≠ c := fun p hp q => h ((any_key c l).mpr ⟨p, hp, q⟩)
    by_cases e : d = c
    · rw [if_pos e, e, lk_none hn]
      simp [lk]
    · rw [if_neg e]
      cases lk d l with
      | some w => rfl
      | none => simp [lk, Ne.symm e, fun z : c = d => e z.symm]
theorem putT_nd (c : Str) (v : Int) {l : Terms} (h : ND l) : ND (putT c v l) := by
  unfold putT
  by_cases a : (l.any fun p => decide (p.1 = c)) = true
  · rw [if_pos a]
    have : (l.map fun p => if p.1 = c then (p.1, v) else p).map (fun p => p.1) = l.map (fun p => p.1) := by
      rw [List.map_map]
      refine List.map_congr_left fun p _ => ?_
      show (if p.1 = c then (p.1, v) else p).1 = p.1
      split <;> rfl
    show List.Nodup _
    rw [this]
    exact h
  · rw [if_neg a]
    show List.Nodup _
    rw [List.map_append, List.nodup_append]
    refine ⟨h, by simp, ?_⟩
    intro x hx y hy e
    simp at hy
    obtain ⟨p, hp, q⟩ := List.mem_map.mp hx
    exact a ((any_key c l).mpr ⟨p, hp, by rw [q, e, hy]⟩)
theorem lk0_putT (c : Str) (v : Int) (l : Terms) (d : Str) : lk0 d (putT c v l) = if d = c then v else lk0 d l := by
  unfold lk0
  rw [lk_putT]
  by_cases e : d = c
  · rw [if_pos e, if_pos e]; rfl
  · rw [if_neg e, if_neg e]
theorem lk0_cons (d : Str) (p : Str × Int) (r : Terms) : lk0 d (p :: r) = if p.1 = d then p.2 else lk0 d r := by
  unfold lk0
  rw [lk_cons]
  split <;> rfl
theorem lk0_not {d : Str} {r : Terms} (h : d ∉ r.map (·.1)) : lk0 d r = 0 := by
  unfold lk0
  rw [lk_none fun p hp e => h (by rw [← e]; exact List.mem_map_of_mem hp)]
  rfl
theorem mergeT_nd : ∀ (ts : Terms) {l : Terms}, ND l → ND (mergeT l ts)
  | [], _, h => h
  | p :: r, l, h => mergeT_nd r (putT_nd p.1 p.2 h)
theorem mergeT_lk (d : Str) : ∀ (ts : Terms) (l : Terms), ND ts → lk0 d (mergeT l ts) = if d ∈ ts.map (·.1) then lk0 d ts else lk0 d l
  | [], l, _ => by simp [mergeT]
  | p :: r, l, h => by
    have h' : p.1 ∉ r.map (·.1) ∧ (r.map (·.1)).Nodup := List.nodup_cons.mp h
    show lk0 d (mergeT (putT p.1 p.2 l) r) = _
    rw [mergeT_lk d r _ h'.2, lk0_putT, lk0_cons]
    by_cases e : p.1 = d
    · subst e
      rw [if_neg h'.1, if_pos rfl, if_pos rfl, if_pos (by simp)]
    · have e' : ¬ d = p.1 := fun z => e z.symm
      by_cases m : d ∈ r.map (·.1)
      · have m' : d ∈ (p :: r).map (·.1) := List.mem_cons_of_mem _ m
        rw [if_pos m, if_neg e, if_pos m']
      · have m' : ¬ d ∈ (p :: r).map (·.1) := by
          rw [List.map_cons]; intro z
          rcases List.mem_cons.mp z with z | z
          · exact e' z
          · exact m z
        rw [if_neg m, if_neg e', if_neg m']
theorem merge0_lk (d : Str) {ts : Terms} (h : ND ts) : lk0 d (mergeT [] ts) = lk0 d ts := by
  rw [mergeT_lk d ts [] h]
  split
  · rfl
  · rename_i m
    exact (lk0_not m).symm
theorem addT_nd : ∀ (ts : Terms) {l : Terms}, ND l → ND (addT l ts)
  | [], _, h => h
  | p :: r, l, h => addT_nd r (putT_nd p.1 _ h)
theorem addT_lk (d : Str) : ∀ (ts : Terms) (l : Terms), ND ts → lk0 d (addT l ts) = lk0 d l + lk0 d ts
  | [], l, _ => by simp [addT, lk0, lk]
  | p :: r, l, h => by
    have h' : p.1 ∉ r.map (·.1) ∧ (r.map (·.1)).Nodup := List.nodup_cons.mp h
    show lk0 d (addT (putT p.1 (lk0 p.1 l + p.2) l) r) = _
    rw [addT_lk d r _ h'.2, lk0_putT, lk0_cons]
    by_cases e : p.1 = d
    · subst e
      rw [if_pos rfl, if_pos rfl, lk0_not h'.1]
      omega
    · rw [if_neg (fun z => e z.symm), if_neg e]
theorem plus_nd (f g : Int × Terms) : ND (addT (mergeT [] f.2) g.2) := addT_nd _ (mergeT_nd _ List.nodup_nil)
theorem plus_nrm (f g : Int × Terms) : Nrm (plusV f g).2 := termsOf_nrm (plus_nd f g)
theorem plus_lk (d : Str) {f g : Int × Terms} (hf : ND f.2) (hg : ND g.2) : lk0 d (plusV f g).2 = lk0 d f.2 + lk0 d g.2 := by
  show lk0 d (termsOf _) = _
  rw [termsOf_lk (plus_nd f g), addT_lk d _ _ hg, merge0_lk d hf]
theorem lk0_mul (d : Str) (m : Int) : ∀ l : Terms, lk0 d (l.map fun p => (p.1, p.2 * m)) = lk0 d l * m
  | [] => by simp [lk0, lk]
  | p :: r => by
    rw [List.map_cons, lk0_cons, lk0_cons, lk0_mul d m r]
    split <;> rfl
theorem mul_nd (m : Int) {l : Terms} (h : ND l) : ND (l.map fun p => (p.1, p.2 * m)) := by
  show List.Nodup _
  rw [List.map_map]
  exact h
theorem times_nrm (f : Int × Terms) (m : Int) : Nrm (timesV f m).2 := termsOf_nrm (mergeT_nd _ List.nodup_nil)
theorem times_lk (d : Str) {f : Int × Terms} (m : Int) (hf : ND f.2) : lk0 d (timesV f m).2 = lk0 d f.2 * m := by
  have h0 : ND (mergeT [] (f.2.map fun p => (p.1, p.2 * m))) := mergeT_nd _ (show ND [] from List.nodup_nil)
  show lk0 d (termsOf _) = _
  rw [termsOf_lk h0, merge0_lk d (mul_nd m hf), lk0_mul]
theorem just_lk (d c : Str) : lk0 d (justV c).2 = if c = d then 1 else 0 := by
  show lk0 d [(c, 1)] = _
  rw [lk0_cons]
  rfl
end T
end
section
set_option maxRecDepth 100000
namespace T
open PySem G
/-! ### drawn forms are in order -/
def KS (cells : List Str) (l : Terms) : Prop := ∀ p ∈ l, p.1 ∈ cells
theorem nodup_len : ∀ (a b : List Str), a.Nodup → (∀ x ∈ a, x ∈ b) → a.length ≤ b.length
  | [], b, _, _ => Nat.zero_le _
  | x :: a, b, h, hs => by
    rw [List.nodup_cons] at h
    have h1 : x ∈ b := hs x List.mem_cons_self
    have h2 := nodup_len a (b.erase x) h.2 (fun y hy => (List.mem_erase_of_ne (fun e => h.1 (by rw [← e]; exact hy))).mpr (hs y (List.mem_cons_of_mem _ hy)))
    rw [List.length_erase_of_mem h1] at h2
    have h3 := List.length_pos_of_mem h1
    rw [List.length_cons]
    omega
theorem KS_len {cells : List Str} {l : Terms} (h : KS cells l) (n : ND l) : l.length ≤ cells.length := by
  have : (l.map (·.1)).length ≤ cells.length := by
    refine nodup_len _ _ n ?_
    intro c hc
    obtain ⟨p, hp, e⟩ := List.mem_map.mp hc
    rw [← e]
    exact h p hp
  rw [List.length_map] at this
  exact this
theorem many_ok (ns : List Int) (t j : Nat) (hj : j < 6) : gi (manyL ns t) j ≠ 0 ∧ (gi (manyL ns t) j).natAbs ≤ 9 := by
  have h1 := draw_lo ns t (m := 8) (by omega)
  have h2 := draw_hi ns t (m := 8) (by omega)
  match j, hj with
  | 0, _ => exact ⟨by show (1 : Int) ≠ 0; omega, by show (1 : Int).natAbs ≤ 9; omega⟩
  | 1, _ => exact ⟨by show (1 : Int) ≠ 0; omega, by show (1 : Int).natAbs ≤ 9; omega⟩
  | 2, _ => exact ⟨by show (-1 : Int) ≠ 0; omega, by show (-1 : Int).natAbs ≤ 9; omega⟩
  | 3, _ => exact ⟨by show (9 : Int) ≠ 0; omega, by show (9 : Int).natAbs ≤ 9; omega⟩
  | 4, _ => exact ⟨by show (-9 : Int) ≠ 0; omega, by show (-9 : Int).natAbs ≤ 9; omega⟩
  | 5, _ => exact ⟨by show 1 + draw ns t 8 ≠ 0; omega, by show (1 + draw ns t 8).natAbs ≤ 9; omega⟩
def FOk (all rest : List Str) (l : Terms) : Prop := SK l ∧ KS all l ∧ (∀ p ∈ l, p.2 ≠ 0 ∧ p.2.natAbs ≤ 9) ∧ ∀ p ∈ l, ∀ c ∈ rest, strLe p.1 c = true ∧ p.1 ≠ c
theorem fStep_ok (ns : List Int) (th : Int) (all rest : List Str) (c : Str) (a : Nat × Terms) (hc : c ∈ all) (hr : ∀ d ∈ rest, strLe c d = true ∧ c ≠ d) (h : FOk all (c :: rest) a.2) : FOk all rest (fStep ns th a c).2 := by
  obtain ⟨h1, h2, h3, h4⟩ := h
  unfold fStep
  split
  · have hm := many_ok ns (a.1 + 1) (pk ns (a.1 + 2) 6) (pk_lt ns _ (n := 6) (by omega))
    refine ⟨?_, ?_, ?_, ?_⟩
    · show List.Pairwise _ (_ ++ _)
      rw [List.pairwise_append]
      refine ⟨h1, List.pairwise_singleton _ _, ?_⟩
      intro p hp q hq
      rw [List.mem_singleton.mp hq]
      exact h4 p hp c List.mem_cons_self
    · intro p hp
      rcases List.mem_append.mp hp with hp | hp
      · exact h2 p hp
      · rw [List.mem_singleton.mp hp]; exact hc
    · intro p hp
      rcases List.mem_append.mp hp with hp | hp
      · exact h3 p hp
      · rw [List.mem_singleton.mp hp]; exact hm
    · intro p hp d hd
      rcases List.mem_append.mp hp with hp | hp
      · exact h4 p hp d (List.mem_cons_of_mem _ hd)
      · rw [List.mem_singleton.mp hp]; exact hr d hd
  · exact ⟨h1, h2, h3, fun p hp d hd => h4 p hp d (List.mem_cons_of_mem _ hd)⟩
theorem fFold_ok (ns : List Int) (th : Int) (all : List Str) : ∀ (cells : List Str) (a : Nat × Terms), (∀ c ∈ cells, c ∈ all) → (cells.Pairwise fun c d => strLe c d = true ∧ c ≠ d) → FOk all cells a.2 → FOk all [] (cells.foldl (fStep ns th) a).2
  | [], a, _, _, h => h
  | c :: r, a, h1, h2, h => by
    rw [List.pairwise_cons] at h2
    rw [List.foldl_cons]
    exact fFold_ok ns th all r _ (fun d hd => h1 d (List.mem_cons_of_mem _ hd)) h2.2 (fStep_ok ns th all r c a (h1 c List.mem_cons_self) h2.1 h)
theorem formV_ok (ns : List Int) (t : Nat) (cells : List Str) (h : cells.Pairwise fun c d => strLe c d = true ∧ c ≠ d) : FOk cells [] (formV ns t cells).2 :=
  fFold_ok ns _ cells cells _ (fun _ hc => hc) h ⟨List.Pairwise.nil, (fun _ hp => by cases hp), (fun _ hp => by cases hp), (fun _ hp => by cases hp)⟩
theorem FOk.nrm {all rest : List Str} {l : Terms} (h : FOk all rest l) : Nrm l := ⟨h.1, fun p hp => (h.2.2.1 p hp).1⟩
/-- keys stay among the cells -/
theorem termsOf_ks {cells : List Str} {l : Terms} (h : KS cells l) : KS cells (termsOf l) := by
  intro p hp
  unfold termsOf at hp
  obtain ⟨c, hc, e⟩ := List.mem_filterMap.mp hp
  split at e
  · cases e
  · cases e
    have := (List.mergeSort_perm _ _).mem_iff.mp hc
    obtain ⟨q, hq, e⟩ := List.mem_map.mp this
    show c ∈ cells
    rw [← e]
    exact h q hq
theorem putT_ks {cells : List Str} {l : Terms} {c : Str} {v : Int} (h : KS cells l) (hc : c ∈ cells) : KS cells (putT c v l) := by
  intro p hp
  unfold putT at hp
  split at hp
  · obtain ⟨q, hq, e⟩ := List.mem_map.mp hp
    rw [← e]
    split
    · exact h q hq
    · exact h q hq
  · rcases List.mem_append.mp hp with hp | hp
    · exact h p hp
    · rw [List.mem_singleton.mp hp]; exact hc
theorem mergeT_ks {cells : List Str} : ∀ {ts l : Terms}, KS cells l → KS cells ts → KS cells (mergeT l ts)
  | [], _, h, _ => h
  | p :: r, l, h, h' => mergeT_ks (ts := r) (putT_ks h (h' p List.mem_cons_self)) fun q hq => h' q (List.mem_cons_of_mem _ hq)
theorem addT_ks {cells : List Str} : ∀ {ts l : Terms}, KS cells l → KS cells ts → KS cells (addT l ts)
  | [], _, h, _ => h
  | p :: r, l, h, h' => addT_ks (ts := r) (putT_ks h (h' p List.mem_cons_self)) fun q hq => h' q (List.mem_cons_of_mem _ hq)
theorem KS_nil (cells : List Str) : KS cells [] := fun _ hp => by cases hp
theorem plus_ks {cells : List Str} {f g : Int × Terms} (h1 : KS cells f.2) (h2 : KS cells g.2) : KS cells (plusV f g).2 := termsOf_ks (addT_ks (mergeT_ks (KS_nil _) h1) h2)
theorem times_ks {cells : List Str} {f : Int × Terms} {m : Int} (h : KS cells f.2) : KS cells (timesV f m).2 := termsOf_ks (mergeT_ks (KS_nil _) (by
  intro p hp
  obtain ⟨q, hq, e⟩ := List.mem_map.mp hp
  rw [← e]
  exact h q hq))
end T
end
section
set_option maxRecDepth 100000
namespace T
open PySem G
/-! ### forms compared -/
theorem ne_same {d : D} {p : PyData} (h : toP d = some p) (hs : SeqAt.shaped p = true) : neS d d = some (.bl false) := by
  unfold neS dataEq
  rw [h]
  show (if (SeqAt.shaped p && SeqAt.shaped p) = true then some (PyData.eqv p p) else none).map _ = _
  rw [hs]
  have : PyData.eqv p p = true := SeqAt.eqv_refl p (SeqAt.canLay_of_shaped hs)
  rw [this]
  rfl
def toT (ts : Terms) : List PyData := ts.map fun p => .tuple [.str p.1, .int p.2]
theorem toP_terms : ∀ ts : Terms, toPs (ts.map encP) = some (toT ts)
  | [] => rfl
  | p :: r => by
    show (match toP (encP p), toPs (r.map encP) with
      | some x, some y => some (x :: y)
      | _, _ => none) = _
    rw [toP_terms r]
    rfl
theorem toP_form (f : Int × Terms) : toP (encF f) = some (.tuple [.int f.1, .tuple (toT f.2)]) := by
  have h : toP (encT f.2) = some (.tuple (toT f.2)) := by
    show (match toPs (f.2.map encP) with
      | some ps => some (PyData.tuple ps)
      | none => none) = _
    rw [toP_terms]
  show (match toPs [.int f.1, encT f.2] with
      | some ps => some (PyData.tuple ps)
      | none => none) = _
  have h2 : toPs [D.int f.1, encT f.2] = some [.int f.1, .tuple (toT f.2)] := by
    show (match toP (.int f.1), (match toP (encT f.2), toPs [] with
      | some x, some y => some (x :: y)
      | _, _ => none) with
      | some x, some y => some (x :: y)
      | _, _ => none) = _
    rw [h]
    rfl
  rw [h2]
theorem lay_terms : ∀ ts : Terms, (∀ p ∈ ts, PyData.strOk p.1 = true) → PyData.canLayAll0 (toT ts) = true
  | [], _ => rfl
  | p :: r, h => by
    show (PyData.canLay0 (.tuple [.str p.1, .int p.2]) && PyData.canLayAll0 (toT r)) = true
    rw [lay_terms r fun q hq => h q (List.mem_cons_of_mem _ hq), Bool.and_true]
    show (PyData.strOk p.1 && _) = true
    rw [h p List.mem_cons_self]
    rfl
theorem depth_terms : ∀ ts : Terms, PyData.depthAll (toT ts) ≤ 1
  | [] => Nat.zero_le _
  | p :: r => by
    show max (PyData.depth (.tuple [.str p.1, .int p.2])) (PyData.depthAll (toT r)) ≤ 1
    have h1 := depth_terms r
    have h2 : PyData.depth (.tuple [.str p.1, .int p.2]) = 1 := rfl
    omega
theorem shaped_form (f : Int × Terms) (h : ∀ p ∈ f.2, PyData.strOk p.1 = true) : SeqAt.shaped (.tuple [.int f.1, .tuple (toT f.2)]) = true := by
  have h1 : PyData.canLay0 (.tuple [.int f.1, .tuple (toT f.2)]) = true := by
    show (true && (PyData.canLayAll0 (toT f.2) && true)) = true
    rw [lay_terms _ h]
    rfl
  have h2 : PyData.depth (.tuple [.int f.1, .tuple (toT f.2)]) ≤ 64 := by
    show max 0 (max (PyData.depthAll (toT f.2) + 1) 0) + 1 ≤ 64
    have := depth_terms f.2
    omega
  exact Bool.and_eq_true_iff.mpr ⟨h1, decide_eq_true h2⟩
theorem ne_form {f g : Int × Terms} (e : f = g) (h : ∀ p ∈ f.2, PyData.strOk p.1 = true) : neS (encF f) (encF g) = some (.bl false) := by
  subst e
  exact ne_same (toP_form f) (shaped_form f h)
theorem ks_ok {cells : List Str} (h : ∀ c ∈ cells, PyData.strOk c = true) {l : Terms} (k : KS cells l) : ∀ p ∈ l, PyData.strOk p.1 = true := fun p hp => h _ (k p hp)
theorem ne_ints (i : Int) : neS (.int i) (.int i) = some (.bl false) := ne_same (p := .int i) rfl rfl
end T
end
section
set_option maxRecDepth 100000
namespace T
open PySem G
/-! ### forms put in, by coefficients -/
def im (kvs : List (Str × Form)) (c : Str) : Form := (lkM c kvs).getD (justV c)
theorem putStep_im (kvs : List (Str × Form)) (a : Form) (p : Str × Int) : putStep kvs a p = plusV a (timesV (im kvs p.1) p.2) := rfl
theorem putFold_num (kvs : List (Str × Form)) : ∀ (l : Terms) (a : Form), (l.foldl (putStep kvs) a).1 = a.1 + (l.map fun p => (im kvs p.1).1 * p.2).sum
  | [], a => by simp
  | p :: r, a => by
    rw [List.foldl_cons, putFold_num kvs r, List.map_cons, List.sum_cons]
    show a.1 + (im kvs p.1).1 * p.2 + _ = _
    omega
theorem putFold_lk (d : Str) (kvs : List (Str × Form)) (hk : ∀ c, ND (im kvs c).2) : ∀ (l : Terms) (a : Form), ND a.2 → lk0 d (l.foldl (putStep kvs) a).2 = lk0 d a.2 + (l.map fun p => lk0 d (im kvs p.1).2 * p.2).sum
  | [], a, _ => by simp
  | p :: r, a, h => by
    have h2 : ND (timesV (im kvs p.1) p.2).2 := (times_nrm _ _).s.nodup
    have h3 : ND (putStep kvs a p).2 := (plus_nrm _ _).s.nodup
    rw [List.foldl_cons, putFold_lk d kvs hk r _ h3, List.map_cons, List.sum_cons, putStep_im, plus_lk d h h2, times_lk d p.2 (hk p.1)]
    omega
theorem putFold_nrm (kvs : List (Str × Form)) : ∀ (l : Terms) (a : Form), Nrm a.2 → Nrm (l.foldl (putStep kvs) a).2
  | [], a, h => h
  | p :: r, a, _ => putFold_nrm kvs r _ (plus_nrm _ _)
theorem put_nrm (kvs : List (Str × Form)) (f : Form) : Nrm (putV f kvs).2 := putFold_nrm kvs f.2 _ ⟨List.Pairwise.nil, fun _ hp => by cases hp⟩
theorem put_lk (d : Str) (kvs : List (Str × Form)) (hk : ∀ c, ND (im kvs c).2) (f : Form) : lk0 d (putV f kvs).2 = (f.2.map fun p => lk0 d (im kvs p.1).2 * p.2).sum := by
  unfold putV
  rw [putFold_lk d kvs hk f.2 (f.1, []) List.nodup_nil]
  show (0 : Int) + _ = _
  omega
/-- a sum over a form's terms: over its cells by coefficients -/
theorem sum_cells (w : Str → Int) : ∀ (cells : List Str), cells.Nodup → ∀ l : Terms, ND l → KS cells l → (l.map fun p => w p.1 * p.2).sum = (cells.map fun c => w c * lk0 c l).sum := by
  intro cells hc l
  have zero : ∀ cs : List Str, (cs.map fun c => w c * lk0 c []).sum = 0 := by
    intro cs
    induction cs with
    | nil => rfl
    | cons c r ih =>
      rw [List.map_cons, List.sum_cons, ih]
      show w c * 0 + 0 = 0
      omega
  have one : ∀ (p : Str × Int) (r : Terms), lk0 p.1 r = 0 → ∀ cs : List Str, cs.Nodup → (cs.map fun c => w c * lk0 c (p :: r)).sum = (cs.map fun c => w c * lk0 c r).sum + if p.1 ∈ cs then w p.1 * p.2 else 0 := by
    intro p r hr cs
    induction cs with
    | nil => intro _; simp
    | cons c t ih =>
      intro hn
      rw [List.nodup_cons] at hn
      rw [List.map_cons, List.sum_cons, List.map_cons, List.sum_cons, ih hn.2, lk0_cons]
      by_cases e : p.1 = c
      · subst e
        rw [if_pos rfl, if_neg hn.1, if_pos List.mem_cons_self, hr]
        omega
      · rw [if_neg e]
        by_cases m : p.1 ∈ t
        · rw [if_pos m, if_pos (List.mem_cons_of_mem _ m)]
          omega
        · have m' : ¬ p.1 ∈ c :: t := by
            intro z
            rcases List.mem_cons.mp z with z | z
            · exact e z
            · exact m z
          rw [if_neg m, if_neg m']
          omega
  induction l with
  | nil => intro _ _; rw [zero]; rfl
  | cons p r ih =>
    intro hn hk
    have h' : p.1 ∉ r.map (·.1) ∧ (r.map (·.1)).Nodup := List.nodup_cons.mp hn
    rw [one p r (lk0_not h'.1) cells hc, if_pos (hk p List.mem_cons_self), List.map_cons, List.sum_cons, ih h'.2 fun q hq => hk q (List.mem_cons_of_mem _ hq)]
    omega
end T
end
section
set_option maxRecDepth 100000
namespace T
open PySem G
def abc : Str := "abcdefgh"
theorem abc_len : (chars abc).length = 8 := by decide +kernel
theorem abc_pw : (chars abc).Pairwise fun c d => strLe c d = true ∧ c ≠ d := by decide +kernel
theorem abc_ok : ∀ c ∈ chars abc, PyData.strOk c = true := by decide +kernel
theorem comp_foldN {α β : Type} {tg : Tg} {ifs : Sg → Out Bool} {elt : Sg → Out D} {own : List Nat} (enc : β → D) (f : α → β → α) (g : α → β → List D) (I : Nat → α → Sg → Prop) : ∀ (xs : List β) (a : α) (s : Sg) (acc : List D),
    (∀ n a x s, x ∈ xs → I (n + 1) a s → ∃ s1, bnd tg (enc x) (wipe s own) = some s1 ∧ ((∃ s2 s3 y, ifs s1 = .ok true s2 ∧ elt s2 = .ok y s3 ∧ g a x = [y] ∧ I n (f a x) s3) ∨ ∃ s2, ifs s1 = .ok false s2 ∧ g a x = [] ∧ I n (f a x) s2)) → I xs.length a s → acc.length + xs.length ≤ 16777216 →
    ∃ s', compL tg ifs elt own (xs.map enc) s acc = .ok (acc ++ outL f g a xs) s' ∧ I 0 (xs.foldl f a) s'
  | [], a, s, acc, _, h, _ => ⟨s, by show Out.ok acc s = .ok (acc ++ []) s; rw [List.append_nil], h⟩
  | x :: xs, a, s, acc, st, h, hl => by
    rw [List.length_cons] at hl
    obtain ⟨s1, h1, h2⟩ := st xs.length a x s List.mem_cons_self h
    have st' := fun n a y s hy => st n a y s (List.mem_cons_of_mem x hy)
    have unf : compL tg ifs elt own ((x :: xs).map enc) s acc = (ifs s1).bind fun b s2 => if b then (elt s2).bind fun y s3 => if acc.length < sizeLine then compL tg ifs elt own (xs.map enc) s3 (acc ++ [y]) else .stuck else compL tg ifs elt own (xs.map enc) s2 acc := by
      show (match bnd tg (enc x) (wipe s own) with
        | none => Out.stuck
        | some s1 => (ifs s1).bind fun b s2 => if b then (elt s2).bind fun y s3 => if acc.length < sizeLine then compL tg ifs elt own (xs.map enc) s3 (acc ++ [y]) else .stuck else compL tg ifs elt own (xs.map enc) s2 acc) = _
      rw [h1]
    rw [unf]
    rcases h2 with ⟨s2, s3, y, e1, e2, e3, e4⟩ | ⟨s2, e1, e3, e4⟩
    · obtain ⟨s', q1, q2⟩ := comp_foldN enc f g I xs (f a x) s3 (acc ++ [y]) st' e4 (by rw [List.length_append, List.length_singleton]; omega)
      refine ⟨s', ?_, q2⟩
      rw [e1, Out.bind_ok, if_pos rfl, e2, Out.bind_ok, sizeLine_eq, if_pos (by omega), q1]
      show _ = Out.ok (acc ++ (g a x ++ outL f g (f a x) xs)) s'
      rw [e3, List.append_assoc]
    · obtain ⟨s', q1, q2⟩ := comp_foldN enc f g I xs (f a x) s2 acc st' e4 (by omega)
      refine ⟨s', ?_, q2⟩
      rw [e1, Out.bind_ok, if_neg Bool.false_ne_true, q1]
      show _ = Out.ok (acc ++ (g a x ++ outL f g (f a x) xs)) s'
      rw [e3, List.nil_append]
theorem dict_lst (ts : Terms) : dictS (.lst (ts.map encP)) = some (encK (mergeT [] ts)) := by
  show (pairsD _).map (fun ps => D.dk (mergeD [] ps)) = _
  rw [pairs_enc]
  show some (D.dk (mergeD (([] : Terms).map kvP) (_))) = _
  rw [merge_enc]
  rfl
theorem formT_le (ns : List Int) (t : Nat) : formT ns t (chars abc) ≤ t + 27 := by
  have := fRun_t ns t (chars abc)
  rw [abc_len] at this
  unfold formT
  omega
end T
end
section
set_option maxRecDepth 100000
namespace T
open PySem G
/-! ### the laws of forms, in plain Lean -/
theorem fext {f g : Form} (hf : Nrm f.2) (hg : Nrm g.2) (e1 : f.1 = g.1) (e2 : ∀ c, lk0 c f.2 = lk0 c g.2) : f = g := Prod.ext e1 (nrm_ext hf hg e2)
theorem nrm_nil : Nrm ([] : Terms) := ⟨List.Pairwise.nil, fun _ hp => by cases hp⟩
theorem Nrm.nd {l : Terms} (h : Nrm l) : ND l := h.s.nodup
theorem lk0_nil (c : Str) : lk0 c [] = 0 := rfl
theorem plusV_comm {f g : Form} (hf : Nrm f.2) (hg : Nrm g.2) : plusV f g = plusV g f := by
  refine fext (plus_nrm _ _) (plus_nrm _ _) (Int.add_comm _ _) fun c => ?_
  rw [plus_lk c hf.nd hg.nd, plus_lk c hg.nd hf.nd, Int.add_comm]
theorem plusV_assoc {f g h : Form} (hf : Nrm f.2) (hg : Nrm g.2) (hh : Nrm h.2) : plusV (plusV f g) h = plusV f (plusV g h) := by
  refine fext (plus_nrm _ _) (plus_nrm _ _) (Int.add_assoc _ _ _) fun c => ?_
  rw [plus_lk c (plus_nrm f g).nd hh.nd, plus_lk c hf.nd hg.nd, plus_lk c hf.nd (plus_nrm g h).nd, plus_lk c hg.nd hh.nd, Int.add_assoc]
theorem plusV_none {f : Form} (hf : Nrm f.2) : plusV f (0, []) = f := by
  refine fext (plus_nrm _ _) hf (Int.add_zero _) fun c => ?_
  rw [plus_lk c hf.nd nrm_nil.nd]
  exact Int.add_zero _
theorem timesV_one {f : Form} (hf : Nrm f.2) : timesV f 1 = f := by
  refine fext (times_nrm _ _) hf (Int.mul_one _) fun c => ?_
  rw [times_lk c 1 hf.nd, Int.mul_one]
theorem timesV_zero {f : Form} (hf : Nrm f.2) : timesV f 0 = (0, []) := by
  refine fext (times_nrm _ _) nrm_nil (Int.mul_zero _) fun c => ?_
  rw [times_lk c 0 hf.nd, Int.mul_zero]
  rfl
theorem timesV_add {f : Form} (hf : Nrm f.2) (m n : Int) : plusV (timesV f m) (timesV f n) = timesV f (m + n) := by
  refine fext (plus_nrm _ _) (times_nrm _ _) (Int.mul_add _ _ _).symm fun c => ?_
  rw [plus_lk c (times_nrm f m).nd (times_nrm f n).nd, times_lk c m hf.nd, times_lk c n hf.nd, times_lk c _ hf.nd, Int.mul_add]
theorem timesV_plus {f g : Form} (hf : Nrm f.2) (hg : Nrm g.2) (m : Int) : timesV (plusV f g) m = plusV (timesV f m) (timesV g m) := by
  refine fext (times_nrm _ _) (plus_nrm _ _) (Int.add_mul _ _ _) fun c => ?_
  rw [times_lk c m (plus_nrm f g).nd, plus_lk c hf.nd hg.nd, plus_lk c (times_nrm f m).nd (times_nrm g m).nd, times_lk c m hf.nd, times_lk c m hg.nd, Int.add_mul]
theorem timesV_mul {f : Form} (hf : Nrm f.2) (m n : Int) : timesV (timesV f m) n = timesV f (m * n) := by
  refine fext (times_nrm _ _) (times_nrm _ _) (Int.mul_assoc _ _ _) fun c => ?_
  rw [times_lk c n (times_nrm f m).nd, times_lk c m hf.nd, times_lk c _ hf.nd, Int.mul_assoc]
theorem plusV_neg {f : Form} (hf : Nrm f.2) : plusV f (timesV f (-1)) = (0, []) := by
  refine fext (plus_nrm _ _) nrm_nil (by show f.1 + f.1 * -1 = 0; omega) fun c => ?_
  rw [plus_lk c hf.nd (times_nrm f _).nd, times_lk c _ hf.nd, lk0_nil]
  omega
end T
end
section
set_option maxRecDepth 100000
namespace T
open PySem G
/-! ### put_in and worths: the laws, over the cells -/
def sg (cells : List Str) (w : Str → Int) : Int := (cells.map w).sum
theorem sg_nil (w : Str → Int) : sg [] w = 0 := rfl
theorem sg_cons (c : Str) (r : List Str) (w : Str → Int) : sg (c :: r) w = w c + sg r w := by
  unfold sg
  rw [List.map_cons, List.sum_cons]
theorem sg_add (u v : Str → Int) : ∀ cells, sg cells (fun c => u c + v c) = sg cells u + sg cells v
  | [] => rfl
  | c :: r => by rw [sg_cons, sg_cons, sg_cons, sg_add u v r]; omega
theorem sg_congr {u v : Str → Int} : ∀ {cells : List Str}, (∀ c ∈ cells, u c = v c) → sg cells u = sg cells v
  | [], _ => rfl
  | c :: r, h => by rw [sg_cons, sg_cons, h c List.mem_cons_self, sg_congr (cells := r) fun d hd => h d (List.mem_cons_of_mem _ hd)]
theorem sg_mulr (k : Int) (u : Str → Int) : ∀ cells, sg cells (fun c => u c * k) = sg cells u * k
  | [] => by rw [sg_nil, sg_nil, Int.zero_mul]
  | c :: r => by rw [sg_cons, sg_cons, sg_mulr k u r, Int.add_mul]
theorem sg_mull (k : Int) (u : Str → Int) (cells : List Str) : sg cells (fun c => k * u c) = k * sg cells u := by
  rw [Int.mul_comm, ← sg_mulr]
  exact sg_congr fun c _ => Int.mul_comm _ _
theorem sg_zero : ∀ cells, sg cells (fun _ => 0) = 0
  | [] => rfl
  | c :: r => by rw [sg_cons, sg_zero r]; rfl
theorem sg_swap (a : Str → Str → Int) (ds : List Str) : ∀ cs, sg ds (fun d => sg cs (fun c => a d c)) = sg cs (fun c => sg ds (fun d => a d c))
  | [] => sg_zero ds
  | c :: r => by
    rw [sg_cons, ← sg_swap a ds r, ← sg_add]
    exact sg_congr fun d _ => sg_cons c r _
theorem sum_sg {cells : List Str} (hc : cells.Nodup) {l : Terms} (n : ND l) (k : KS cells l) (w : Str → Int) : (l.map fun p => w p.1 * p.2).sum = sg cells fun c => w c * lk0 c l := sum_cells w cells hc l n k
theorem put_num {cells : List Str} (hc : cells.Nodup) {f : Form} (n : ND f.2) (k : KS cells f.2) (kvs : List (Str × Form)) : (putV f kvs).1 = f.1 + sg cells fun c => (im kvs c).1 * lk0 c f.2 := by
  unfold putV
  rw [putFold_num, sum_sg hc n k fun c => (im kvs c).1]
theorem put_sg {cells : List Str} (hc : cells.Nodup) {f : Form} (n : ND f.2) (k : KS cells f.2) (kvs : List (Str × Form)) (hk : ∀ c, ND (im kvs c).2) (d : Str) : lk0 d (putV f kvs).2 = sg cells fun c => lk0 d (im kvs c).2 * lk0 c f.2 := by
  rw [put_lk d kvs hk, sum_sg hc n k fun c => lk0 d (im kvs c).2]
theorem worth_sg {cells : List Str} (hc : cells.Nodup) {f : Form} (n : ND f.2) (k : KS cells f.2) (w : Str → Int) : worthV f w = f.1 + sg cells fun c => w c * lk0 c f.2 := by
  unfold worthV
  rw [← sum_sg hc n k w]
  congr 2
  exact List.map_congr_left fun p _ => Int.mul_comm _ _
theorem just_nd (c : Str) : ND (justV c).2 := by
  show List.Nodup [c]
  simp
theorem sg_one {d : Str} (v : Str → Int) : ∀ {cells : List Str}, cells.Nodup → (sg cells fun c => (if c = d then 1 else 0) * v c) = if d ∈ cells then v d else 0
  | [], _ => by simp [sg]
  | c :: r, h => by
    rw [List.nodup_cons] at h
    rw [sg_cons, sg_one v h.2]
    by_cases e : c = d
    · subst e
      rw [if_pos rfl, if_neg h.1, if_pos List.mem_cons_self]
      omega
    · rw [if_neg e]
      by_cases m : d ∈ r
      · rw [if_pos m, if_pos (List.mem_cons_of_mem _ m)]; omega
      · have m' : ¬ d ∈ c :: r := by
          intro z
          rcases List.mem_cons.mp z with z | z
          · exact e z.symm
          · exact m z
        rw [if_neg m, if_neg m']; omega
theorem KS_lk {cells : List Str} {l : Terms} (k : KS cells l) {d : Str} (h : d ∉ cells) : lk0 d l = 0 := lk0_not fun z => by
  obtain ⟨p, hp, e⟩ := List.mem_map.mp z
  exact h (by rw [← e]; exact k p hp)
theorem put_itself {cells : List Str} (hc : cells.Nodup) {f : Form} (n : Nrm f.2) (k : KS cells f.2) (kvs : List (Str × Form)) (h : ∀ c, im kvs c = justV c) : putV f kvs = f := by
  refine fext (put_nrm _ _) n ?_ fun d => ?_
  · rw [put_num hc n.nd k]
    rw [sg_congr (v := fun _ => 0) fun c _ => by rw [h]; exact Int.zero_mul _, sg_zero]
    omega
  · rw [put_sg hc n.nd k kvs fun c => by rw [h]; exact just_nd c]
    rw [sg_congr (v := fun c => (if c = d then 1 else 0) * lk0 c f.2) fun c _ => by rw [h, just_lk], sg_one _ hc]
    by_cases m : d ∈ cells
    · rw [if_pos m]
    · rw [if_neg m, KS_lk k m]
theorem put_plus {cells : List Str} (hc : cells.Nodup) {f g : Form} (nf : Nrm f.2) (kf : KS cells f.2) (ng : Nrm g.2) (kg : KS cells g.2) (kvs : List (Str × Form)) (hk : ∀ c, ND (im kvs c).2) : putV (plusV f g) kvs = plusV (putV f kvs) (putV g kvs) := by
  have np := plus_nrm f g
  have kp : KS cells (plusV f g).2 := plus_ks kf kg
  refine fext (put_nrm _ _) (plus_nrm _ _) ?_ fun d => ?_
  · show _ = (putV f kvs).1 + (putV g kvs).1
    rw [put_num hc np.nd kp, put_num hc nf.nd kf, put_num hc ng.nd kg, sg_congr (v := fun c => (im kvs c).1 * lk0 c f.2 + (im kvs c).1 * lk0 c g.2) fun c _ => by rw [plus_lk c nf.nd ng.nd, Int.mul_add], sg_add]
    show f.1 + g.1 + _ = _
    omega
  · rw [plus_lk d (put_nrm kvs f).nd (put_nrm kvs g).nd, put_sg hc np.nd kp kvs hk, put_sg hc nf.nd kf kvs hk, put_sg hc ng.nd kg kvs hk, sg_congr (v := fun c => lk0 d (im kvs c).2 * lk0 c f.2 + lk0 d (im kvs c).2 * lk0 c g.2) fun c _ => by rw [plus_lk c nf.nd ng.nd, Int.mul_add], sg_add]
theorem worth_times {cells : List Str} (hc : cells.Nodup) {f : Form} (n : Nrm f.2) (k : KS cells f.2) (m : Int) (w : Str → Int) : worthV (timesV f m) w = m * worthV f w := by
  rw [worth_sg hc (times_nrm f m).nd (times_ks k) w, worth_sg hc n.nd k w, sg_congr (v := fun c => w c * lk0 c f.2 * m) fun c _ => by rw [times_lk c m n.nd, Int.mul_assoc], sg_mulr, Int.mul_add, Int.mul_comm m, Int.mul_comm m]
  rfl
theorem worth_put {cells : List Str} (hc : cells.Nodup) {f : Form} (n : Nrm f.2) (k : KS cells f.2) (kvs : List (Str × Form)) (hk : ∀ c ∈ cells, KS cells (im kvs c).2) (hn : ∀ c, ND (im kvs c).2) (kp : KS cells (putV f kvs).2) (w v : Str → Int) (hv : ∀ c ∈ cells, v c = worthV (im kvs c) w) : worthV (putV f kvs) w = worthV f v := by
  rw [worth_sg hc (put_nrm kvs f).nd kp w, worth_sg hc n.nd k v, put_num hc n.nd k]
  rw [sg_congr (u := fun c => v c * lk0 c f.2) (v := fun c => (im kvs c).1 * lk0 c f.2 + (sg cells fun d => w d * (lk0 d (im kvs c).2 * lk0 c f.2))) fun c m => by
    rw [hv c m, worth_sg hc (hn c) (hk c m) w, Int.add_mul, ← sg_mulr]
    congr 1
    exact sg_congr fun d _ => Int.mul_assoc _ _ _]
  rw [sg_add, ← sg_swap, sg_congr (u := fun d => w d * lk0 d (putV f kvs).2) (v := fun d => sg cells fun c => w d * (lk0 d (im kvs c).2 * lk0 c f.2)) fun d _ => by rw [put_sg hc n.nd k kvs hn, sg_mull]]
  omega
end T
end
section
set_option maxRecDepth 10000
/-! Walks told by what must come: statement after statement, with what is left as a wish. -/
namespace G
open PySem
variable {Q : SOut → Prop} {s s1 s2 s3 : Sg} {r a b body : CSs} {d x y z v k : D} {ds : List D} {i : Nat}
def Wp (b : CSs) (s : Sg) (Q : SOut → Prop) : Prop := Q (evSs b s)
def thenQ (r : CSs) (Q : SOut → Prop) : SOut → Prop
  | .nx s => Wp r s Q
  | .ret d s => Q (.ret d s)
  | .exc x s => Q (.exc x s)
  | .stuck => Q .stuck
theorem wp_cons {c : CS} (h : thenQ r Q (evS c s)) : Wp (.cons c r) s Q := by
  show Q (match evS c s with
    | .nx s1 => evSs r s1
    | o => o)
  revert h
  cases evS c s <;> exact id
theorem wp_nil (h : Q (.nx s)) : Wp .nil s Q := h
theorem wp_nilT (h : Wp r s Q) : Wp .nil s (thenQ r Q) := h
theorem wp_frz (h : Wp r s Q) : Wp (.frz i r) s Q := h
theorem wp_nx {c : CS} (h : evS c s = .nx s1) (w : Wp r s1 Q) : Wp (.cons c r) s Q := wp_cons (by rw [h]; exact w)
theorem wp_asg {tg : Tg} {e : CE} (h1 : evE e s = .ok d s1) (h2 : bnd tg d s1 = some s2) (w : Wp r s2 Q) : Wp (.cons (.asg tg e) r) s Q := wp_nx (s_asg h1 h2) w
theorem wp_own {e : CE} (h1 : evE e s = .ok d s1) (h2 : s1.set i d = s2) (w : Wp r s2 Q) : Wp (.cons (.own i e) r) s Q := wp_nx (s_own h1) (by rw [h2]; exact w)
theorem wp_par {ts : List (Nat × Bool)} {es : CEs} (h1 : evEs es s = .ok ds s1) (h2 : parSet ts ds s1 = s2) (w : Wp r s2 Q) : Wp (.cons (.par ts es) r) s Q := wp_nx (s_par h1) (by rw [h2]; exact w)
theorem wp_setIt {ix e : CE} (h1 : evE e s = .ok v s1) (h2 : evE ix s1 = .ok k s2) (h0 : gt s2 i = x) (h3 : setAt x k v = some d) (h4 : s2.set i d = s3) (w : Wp r s3 Q) : Wp (.cons (.setIt i ix e) r) s Q :=
  wp_nx (s_setIt h1 h2 (by rw [h0]; exact h3)) (by rw [h4]; exact w)
theorem wp_app {e : CE} (h0 : gt s i = x) (hl : isLst x = true) (h1 : evE e s = .ok v s1) (h2 : gt s1 i = y) (h3 : appTo y v = some d) (h4 : s1.set i d = s2) (w : Wp r s2 Q) : Wp (.cons (.app i e) r) s Q :=
  wp_nx (s_app (by rw [h0]; exact hl) h1 (by rw [h2]; exact h3)) (by rw [h4]; exact w)
theorem s_ext {e : CE} {d : D} (h0 : isLst (gt s i) = true) (h1 : evE e s = .ok v s1) (h3 : extTo (gt s1 i) v = some d) : evS (.ext i e) s = .nx (s1.set i d) := by
  show (if isLst (gt s i) = true then _ else _) = _
  rw [if_pos h0, h1, Out.st_ok, h3]
  rfl
theorem wp_ext {e : CE} (h0 : gt s i = x) (hl : isLst x = true) (h1 : evE e s = .ok v s1) (h2 : gt s1 i = y) (h3 : extTo y v = some d) (h4 : s1.set i d = s2) (w : Wp r s2 Q) : Wp (.cons (.ext i e) r) s Q :=
  wp_nx (s_ext (by rw [h0]; exact hl) h1 (by rw [h2]; exact h3)) (by rw [h4]; exact w)
theorem s_rem {e : CE} {d : D} (h0 : isLst (gt s i) = true) (h1 : evE e s = .ok v s1) (h3 : remFrom (gt s1 i) v = some d) : evS (.rem i e) s = .nx (s1.set i d) := by
  show (if isLst (gt s i) = true then _ else _) = _
  rw [if_pos h0, h1, Out.st_ok, h3]
  rfl
theorem wp_rem {e : CE} (h0 : gt s i = x) (hl : isLst x = true) (h1 : evE e s = .ok v s1) (h2 : gt s1 i = y) (h3 : remFrom y v = some d) (h4 : s1.set i d = s2) (w : Wp r s2 Q) : Wp (.cons (.rem i e) r) s Q :=
  wp_nx (s_rem (by rw [h0]; exact hl) h1 (by rw [h2]; exact h3)) (by rw [h4]; exact w)
theorem s_upd {e : CE} {d : D} (h0 : isDk (gt s i) = true) (h1 : evE e s = .ok v s1) (h3 : updTo (gt s1 i) v = some d) : evS (.upd i e) s = .nx (s1.set i d) := by
  show (if isDk (gt s i) = true then _ else _) = _
  rw [if_pos h0, h1, Out.st_ok, h3]
  rfl
theorem wp_upd {e : CE} (h0 : gt s i = x) (hl : isDk x = true) (h1 : evE e s = .ok v s1) (h2 : gt s1 i = y) (h3 : updTo y v = some d) (h4 : s1.set i d = s2) (w : Wp r s2 Q) : Wp (.cons (.upd i e) r) s Q :=
  wp_nx (s_upd (by rw [h0]; exact hl) h1 (by rw [h2]; exact h3)) (by rw [h4]; exact w)
theorem wp_expr {e : CE} (h1 : evE e s = .ok d s1) (w : Wp r s1 Q) : Wp (.cons (.expr e) r) s Q := wp_nx (by show (evE e s).st _ = _; rw [h1]; rfl) w
theorem wp_pass (w : Wp r s Q) : Wp (.cons .pass r) s Q := wp_nx rfl w
theorem wp_ret {e : CE} (h1 : evE e s = .ok d s1) (w : Q (.ret d s1)) : Wp (.cons (.ret e) r) s Q := wp_cons (by rw [s_ret h1]; exact w)
theorem wp_raise {x : Ex} (w : Q (.exc x s)) : Wp (.cons (.raise x) r) s Q := wp_cons (c := .raise x) w
theorem tq_ret (w : Q (.ret d s)) : thenQ r Q (.ret d s) := w
theorem tq_exc {x : Ex} (w : Q (.exc x s)) : thenQ r Q (.exc x s) := w
theorem tq_nx (w : Wp r s Q) : thenQ r Q (.nx s) := w
theorem tq_mono {Q' : SOut → Prop} {o : SOut} (m : ∀ o, Q' o → Q o) (h : thenQ r Q' o) : thenQ r Q o := by
  cases o <;> exact m _ h
theorem wp_mono {Q' : SOut → Prop} (m : ∀ o, Q' o → Q o) (h : Wp b s Q') : Wp b s Q := m _ h
theorem wp_iff {c : CE} {g : List SK} {t : Bool} (h1 : evT c s = .ok t s1) (w1 : t = true → Wp a s1 (thenQ r Q)) (w2 : t = false → Wp b s1 (thenQ r Q)) : Wp (.cons (.iff c a b g) r) s Q := by
  refine wp_cons ?_
  rw [s_iff h1]
  cases t with
  | true => exact w1 rfl
  | false => exact w2 rfl
/-- a test that fails -/
theorem wp_no {c : CE} {g : List SK} {t : Bool} (h1 : evT c s = .ok t s1) (ht : t = false) (w : Wp b s1 (thenQ r Q)) : Wp (.cons (.iff c a b g) r) s Q :=
  wp_iff h1 (fun h => by rw [ht] at h; cases h) fun _ => w
theorem wp_yes {c : CE} {g : List SK} {t : Bool} (h1 : evT c s = .ok t s1) (ht : t = true) (w : Wp a s1 (thenQ r Q)) : Wp (.cons (.iff c a b g) r) s Q :=
  wp_iff h1 (fun _ => w) fun h => by rw [ht] at h; cases h
/-- what a turn's body must come to -/
def turnQ (I : Sg → Prop) (Q : SOut → Prop) : SOut → Prop
  | .nx s => I s
  | .ret d s => Q (.ret d s)
  | .exc x s => Q (.exc x s)
  | .stuck => Q .stuck
theorem turn_nil {I : Sg → Prop} (h : I s) : Wp .nil s (turnQ I Q) := h
theorem turn_nx {I : Sg → Prop} (h : I s) : turnQ I Q (.nx s) := h
theorem turn_ret {I : Sg → Prop} (h : Q (.ret d s)) : turnQ I Q (.ret d s) := h
theorem turn_exc {I : Sg → Prop} {x : Ex} (h : Q (.exc x s)) : turnQ I Q (.exc x s) := h
/-- a for: `I n a s` with n turns left, a the state it stands for; a turn may leave -/
theorem forQ {α β : Type} {tg : Tg} (enc : β → D) (f : α → β → α) (I : Nat → α → Sg → Prop) : ∀ (xs : List β) (a : α) (s : Sg),
    (∀ n a x s, x ∈ xs → I (n + 1) a s → ∃ s1, bnd tg (enc x) s = some s1 ∧ Wp body s1 (turnQ (I n (f a x)) Q)) → I xs.length a s → (∀ s, I 0 (xs.foldl f a) s → Q (.nx s)) → Q (forL tg (fun s2 => evSs body s2) (xs.map enc) s)
  | [], a, s, _, h, e => e s h
  | x :: xs, a, s, st, h, e => by
    obtain ⟨s1, h1, h2⟩ := st xs.length a x s List.mem_cons_self h
    show Q (match bnd tg (enc x) s with
      | none => SOut.stuck
      | some s1 => match evSs body s1 with
        | .nx s2 => forL tg (fun s2 => evSs body s2) (xs.map enc) s2
        | o => o)
    rw [h1]
    dsimp only
    unfold Wp at h2
    generalize evSs body s1 = o at h2
    cases o with
    | nx s2 => exact forQ enc f I xs (f a x) s2 (fun n a y s hy => st n a y s (List.mem_cons_of_mem _ hy)) h2 e
    | ret d s2 => exact h2
    | exc x s2 => exact h2
    | stuck => exact h2
theorem wp_for {α β : Type} {P : Ip} {cs : CEs} {tg : Tg} {g : List SK} {xs : List β} (enc : β → D) (f : α → β → α) (I : Nat → α → Sg → Prop) (a0 : α) (h1 : evEs cs s = .ok ds s1) (h2 : P.sem ds = some (xs.map enc)) (h0 : I xs.length a0 s1)
    (st : ∀ n a x s, x ∈ xs → I (n + 1) a s → ∃ s2, bnd tg (enc x) s = some s2 ∧ Wp body s2 (turnQ (I n (f a x)) (thenQ r Q))) (e : ∀ s, I 0 (xs.foldl f a0) s → Wp r s Q) : Wp (.cons (.for_ P cs tg body g) r) s Q := by
  refine wp_cons ?_
  rw [s_for h1 h2]
  exact forQ enc f I xs a0 s1 st h0 e
/-- over the keys of a dict -/
theorem wp_forK {α β : Type} {tg : Tg} {g : List SK} {xs : List β} (enc : β → D) (f : α → β → α) (I : Nat → α → Sg → Prop) (a0 : α) (h1 : gt s i = d) (h2 : keysOf d = some (xs.map enc)) (h0 : I xs.length a0 s)
    (st : ∀ n a x s, x ∈ xs → I (n + 1) a s → ∃ s2, bnd tg (enc x) s = some s2 ∧ Wp body s2 (turnQ (I n (f a x)) (fun o => (match o with | .exc _ _ => False | _ => True) ∧ thenQ r Q o))) (e : ∀ s, I 0 (xs.foldl f a0) s → Wp r s Q) : Wp (.cons (.forK i tg body g) r) s Q := by
  refine wp_cons ?_
  show thenQ r Q (match keysOf (gt s i) with
    | none => .stuck
    | some items => (match forL tg (fun s2 => evSs body s2) items s with
      | .exc _ _ => .stuck
      | o => o))
  rw [h1, h2]
  dsimp only
  have h := forQ (tg := tg) (body := body) (Q := fun o => (match o with | .exc _ _ => False | _ => True) ∧ thenQ r Q o) enc f I xs a0 s st h0 fun s h => ⟨trivial, e s h⟩
  generalize forL tg (fun s2 => evSs body s2) (xs.map enc) s = o at h
  cases o with
  | exc x s => exact h.1.elim
  | nx s => exact h.2
  | ret d s => exact h.2
  | stuck => exact h.2
/-- a for, by what is still to come -/
theorem forR {β : Type} {tg : Tg} (enc : β → D) (I : List β → Sg → Prop) : ∀ (xs : List β) (s : Sg),
    (∀ x r s, I (x :: r) s → ∃ s1, bnd tg (enc x) s = some s1 ∧ Wp body s1 (turnQ (I r) Q)) → I xs s → (∀ s, I [] s → Q (.nx s)) → Q (forL tg (fun s2 => evSs body s2) (xs.map enc) s)
  | [], s, _, h, e => e s h
  | x :: xs, s, st, h, e => by
    obtain ⟨s1, h1, h2⟩ := st x xs s h
    show Q (match bnd tg (enc x) s with
      | none => SOut.stuck
      | some s1 => match evSs body s1 with
        | .nx s2 => forL tg (fun s2 => evSs body s2) (xs.map enc) s2
        | o => o)
    rw [h1]
    dsimp only
    unfold Wp at h2
    generalize evSs body s1 = o at h2
    cases o with
    | nx s2 => exact forR enc I xs s2 st h2 e
    | ret d s2 => exact h2
    | exc x s2 => exact h2
    | stuck => exact h2
theorem wp_forR {β : Type} {P : Ip} {cs : CEs} {tg : Tg} {g : List SK} {xs : List β} (enc : β → D) (I : List β → Sg → Prop) (h1 : evEs cs s = .ok ds s1) (h2 : P.sem ds = some (xs.map enc)) (h0 : I xs s1)
    (st : ∀ x l s, I (x :: l) s → ∃ s2, bnd tg (enc x) s = some s2 ∧ Wp body s2 (turnQ (I l) (thenQ r Q))) (e : ∀ s, I [] s → Wp r s Q) : Wp (.cons (.for_ P cs tg body g) r) s Q := by
  refine wp_cons ?_
  rw [s_for h1 h2]
  exact forR enc I xs s1 st h0 e
/-- a while: n falls -/
theorem whileQ {c : CE} (I : Nat → Sg → Prop) (st : ∀ n s, I n s → ∃ t s1, evT c s = .ok t s1 ∧ (t = false → Q (.nx s1)) ∧ (t = true → Wp body s1 (turnQ (fun s => ∃ m, m < n ∧ I m s) Q))) : ∀ (k n : Nat) (s : Sg), n < k → I n s → Q (whileL (fun s2 => evT c s2) (fun s2 => evSs body s2) k s)
  | 0, n, s, h, _ => by omega
  | k + 1, n, s, h, hi => by
    obtain ⟨t, s1, e1, e2, e3⟩ := st n s hi
    show Q (match evT c s with
      | .ok true s1 => (match evSs body s1 with
        | .nx s2 => whileL (fun s2 => evT c s2) (fun s2 => evSs body s2) k s2
        | o => o)
      | .ok false s1 => .nx s1
      | .exc x s1 => .exc x s1
      | .stuck => .stuck)
    rw [e1]
    cases t with
    | false => exact e2 rfl
    | true =>
      dsimp only
      have h2 := e3 rfl
      unfold Wp at h2
      generalize evSs body s1 = o at h2
      cases o with
      | nx s2 =>
        obtain ⟨m, hm, hm2⟩ := h2
        exact whileQ I st k m s2 (by omega) hm2
      | ret d s2 => exact h2
      | exc x s2 => exact h2
      | stuck => exact h2
theorem wp_whl {c : CE} {g : List SK} (I : Nat → Sg → Prop) (n : Nat) (hn : n < 1073741824) (h0 : I n s) (st : ∀ n s, I n s → ∃ t s1, evT c s = .ok t s1 ∧ (t = false → Wp r s1 Q) ∧ (t = true → Wp body s1 (turnQ (fun s => ∃ m, m < n ∧ I m s) (thenQ r Q)))) : Wp (.cons (.whl c body g) r) s Q := by
  refine wp_cons ?_
  exact whileQ (Q := thenQ r Q) I st wmax n s hn h0
def triQ (xs : List Ex) (hs : List (Ex × Hs)) (Q : SOut → Prop) : SOut → Prop
  | .exc x s => x ∈ xs ∧ Q (evH x hs s)
  | o => Q o
theorem wp_tri {xs : List Ex} {hs : List (Ex × Hs)} {gx gj : List SK} (w : Wp body s (triQ xs hs (thenQ r Q))) : Wp (.cons (.tri body xs hs gx gj) r) s Q := by
  refine wp_cons ?_
  show thenQ r Q (match evSs body s with
    | .exc x s1 => if x ∈ xs then evH x hs s1 else .stuck
    | o => o)
  unfold Wp at w
  generalize evSs body s = o at w
  cases o with
  | exc x s1 => exact (by show thenQ r Q (if x ∈ xs then _ else _); rw [if_pos w.1]; exact w.2)
  | nx s => exact w
  | ret d s => exact w
  | stuck => exact w
/-- a def -/
def retQ (ls : List Nat) (d : D) (o : List D) : SOut → Prop
  | .ret e s => e = d ∧ outsAt ls s = o
  | .nx s => D.non = d ∧ outsAt ls s = o
  | _ => False
theorem fn_wp {n : Nat} {ls : List Nat} {o : List D} (h : Wp body (ds ++ List.replicate (n - ds.length) .non) (retQ ls d o)) : evF body n ls ds = .ret d o := by
  unfold evF
  unfold Wp at h
  generalize evSs body (ds ++ List.replicate (n - ds.length) .non) = p at h
  cases p with
  | ret e s => obtain ⟨rfl, rfl⟩ := h; rfl
  | nx s => obtain ⟨rfl, rfl⟩ := h; rfl
  | exc x s => exact h.elim
  | stuck => exact h.elim
def excQ (ls : List Nat) (x : Ex) (o : List D) : SOut → Prop
  | .exc y s => y = x ∧ outsAt ls s = o
  | _ => False
theorem fn_wpx {n : Nat} {ls : List Nat} {x : Ex} {o : List D} (h : Wp body (ds ++ List.replicate (n - ds.length) .non) (excQ ls x o)) : evF body n ls ds = .exc x o := by
  unfold evF
  unfold Wp at h
  generalize evSs body (ds ++ List.replicate (n - ds.length) .non) = p at h
  cases p with
  | exc e s => obtain ⟨rfl, rfl⟩ := h; rfl
  | ret e s => exact h.elim
  | nx s => exact h.elim
  | stuck => exact h.elim
/-! expressions, in steps that match by their heads -/
theorem lt_z {a : D} {s : Sg} : 0 < (a :: s : Sg).length := Nat.succ_pos _
theorem lt_s {a : D} {s : Sg} {n : Nat} (h : n < s.length) : n + 1 < (a :: s : Sg).length := Nat.succ_lt_succ h
theorem le_z : ([] : List Tg).length = ([] : List D).length := rfl
theorem le_s {t : Tg} {ts : List Tg} {d : D} {ds : List D} (h : ts.length = ds.length) : (t :: ts).length = (d :: ds).length := congrArg (· + 1) h
theorem or_f {a b : Bool} (h1 : a = false) (h2 : b = false) : (a || b) = false := by rw [h1, h2]; rfl
theorem g_z {d : D} {s : Sg} : gt (d :: s) 0 = d := rfl
theorem g_s {d e : D} {s : Sg} {n : Nat} (h : gt s n = e) : gt (d :: s) (n + 1) = e := h
theorem st_z {d e : D} {s : Sg} : (d :: s : Sg).set 0 e = e :: s := rfl
theorem st_s {d e : D} {s s1 : Sg} {n : Nat} (h : s.set n e = s1) : (d :: s : Sg).set (n + 1) e = d :: s1 := by rw [← h]; rfl
theorem bd_name {i : Nat} {d : D} {s s1 : Sg} (h : s.set i d = s1) (hl : i < s.length) : bnd (.name i) d s = some s1 := by
  show (if i < s.length then some (s.set i d) else none) = _
  rw [if_pos hl, h]
theorem bd_nil {s : Sg} : bnds [] [] s = some s := by unfold bnds; rfl
theorem bd_cons {t : Tg} {ts : List Tg} {d : D} {ds : List D} {s s1 s2 : Sg} (h : bnd t d s = some s1) (h2 : bnds ts ds s1 = some s2) : bnds (t :: ts) (d :: ds) s = some s2 := by
  unfold bnds
  rw [h]
  exact h2
theorem bd_tup {ts : List Tg} {ds : List D} {s s1 : Sg} (hl : ts.length = ds.length) (h : bnds ts ds s = some s1) : bnd (.tup ts) (.tup ds) s = some s1 := by
  unfold bnd
  rw [if_pos hl, h]
theorem bd_wtp {ts : List Tg} {ds : List D} {s s1 : Sg} (hl : ts.length = ds.length) (h : bnds ts ds s = some s1) : bnd (.tup ts) (.wtp ds) s = some s1 := by
  unfold bnd
  rw [if_pos hl, h]
theorem bd_lst {ts : List Tg} {ds : List D} {s s1 : Sg} (hl : ts.length = ds.length) (h : bnds ts ds s = some s1) : bnd (.tup ts) (.lst ds) s = some s1 := by
  unfold bnd
  rw [if_pos hl, h]
theorem wi_nil {s : Sg} : wipe s [] = s := rfl
theorem wi_cons {s s1 s2 : Sg} {i : Nat} {l : List Nat} (h : wipe s l = s1) (h2 : s1.set i .non = s2) : wipe s (i :: l) = s2 := by rw [← h2, ← h]; rfl
theorem ps_nil {s : Sg} : parSet [] [] s = s := rfl
theorem ps_cons {i : Nat} {b : Bool} {ts : List (Nat × Bool)} {d : D} {ds : List D} {s s1 s2 : Sg} (h : s.set i d = s1) (h2 : parSet ts ds s1 = s2) : parSet ((i, b) :: ts) (d :: ds) s = s2 := by rw [← h2, ← h]; rfl
theorem fl_nil {s : Sg} : fill .nil [] s = [] := rfl
theorem fl_val {c : CE} {r : CAs} {d : D} {ds l : List D} {s : Sg} (h : fill r ds s = l) : fill (.val c r) (d :: ds) s = d :: l := by rw [← h]; rfl
theorem fl_lent {i : Nat} {r : CAs} {d : D} {ds l : List D} {s : Sg} (h1 : gt s i = d) (h : fill r ds s = l) : fill (.lent i r) ds s = d :: l := by rw [← h, ← h1]; rfl
theorem pb_nil {o s : Sg} : putB .nil o s = s := rfl
theorem pb_val {c : CE} {r : CAs} {o s s1 : Sg} (h : putB r o s = s1) : putB (.val c r) o s = s1 := h
theorem pb_lent {i : Nat} {r : CAs} {d : D} {o s s1 s2 : Sg} (h1 : s.set i d = s1) (h : putB r o s1 = s2) : putB (.lent i r) (d :: o) s = s2 := by rw [← h, ← h1]; rfl
theorem ce_call {f : Fn} {cs : CAs} {s s1 s2 : Sg} {ds l o : List D} {d : D} (h1 : evAs cs s = .ok ds s1) (hf : fill cs ds s1 = l) (h2 : f.sem l = .ret d o) (hp : putB cs o s1 = s2) : evE (.call f cs) s = .ok d s2 := by
  rw [← hp]
  exact e_call h1 (by rw [hf]; exact h2)
theorem ct_call {f : Fn} {cs : CAs} {s s1 s2 : Sg} {ds l o : List D} {d : D} {b : Bool} (h1 : evAs cs s = .ok ds s1) (hf : fill cs ds s1 = l) (h2 : f.sem l = .ret d o) (h3 : tru d = some b) (hp : putB cs o s1 = s2) : evT (.call f cs) s = .ok b s2 := by
  show (evAs cs s).bind _ = _
  rw [h1, Out.bind_ok, hf, h2]
  show optB (tru d) (putB cs o s1) = _
  rw [h3, hp]
  rfl
theorem ce_not {a : CE} {s s1 : Sg} {d : D} {b : Bool} (h : evE a s = .ok d s1) (h2 : tru d = some b) : evE (.not a) s = .ok (.bl (!b)) s1 := by
  show (evE a s).bind _ = _
  rw [h, Out.bind_ok, h2]
  rfl
theorem ce_bool {op : Bool} {cs : CEs} {s : Sg} {o : Out D} (h : evB op cs s = o) : evE (.bool op cs) s = o := h
theorem cb_one {op : Bool} {c : CE} {s : Sg} {o : Out D} (h : evE c s = o) : evB op (.cons c .nil) s = o := h
/-- and, or of truths, no side done away with -/
theorem cb_and {c : CE} {cs : CEs} {s s1 : Sg} {b b2 : Bool} (h : evE c s = .ok (.bl b) s1) (h2 : evB true cs s1 = .ok (.bl b2) s1) : evB true (.cons c cs) s = .ok (.bl (b && b2)) s1 := by
  cases cs with
  | nil => cases h2
  | cons c2 r =>
    show (evE c s).bind _ = _
    rw [h, Out.bind_ok]
    show (if b = true then evB true (.cons c2 r) s1 else .ok (.bl b) s1) = _
    cases b with
    | true => rw [if_pos rfl, h2]; rfl
    | false => rw [if_neg Bool.false_ne_true]; rfl
theorem cb_or {c : CE} {cs : CEs} {s s1 : Sg} {b b2 : Bool} (h : evE c s = .ok (.bl b) s1) (h2 : evB false cs s1 = .ok (.bl b2) s1) : evB false (.cons c cs) s = .ok (.bl (b || b2)) s1 := by
  cases cs with
  | nil => cases h2
  | cons c2 r =>
    show (evE c s).bind _ = _
    rw [h, Out.bind_ok]
    show (if b = false then evB false (.cons c2 r) s1 else .ok (.bl b) s1) = _
    cases b with
    | false => rw [if_pos rfl, h2]; rfl
    | true => rw [if_neg (by decide)]; rfl
theorem ce_ife {c a b : CE} {s s1 s2 : Sg} {t : Bool} {x y : D} (h : evT c s = .ok t s1) (h1 : evE a s1 = .ok x s2) (h2 : evE b s1 = .ok y s2) : evE (.ife c a b) s = .ok (if t = true then x else y) s2 := by
  show (evT c s).bind _ = _
  rw [h, Out.bind_ok]
  cases t
  · exact h2
  · exact h1
theorem ce_chain {l1 l2 t u : Bool} {a b c : CE} {s s1 s2 : Sg} {x y z : D} (h1 : evE a s = .ok x s1) (h2 : evE b s1 = .ok y s2) (h3 : ordB l1 x y = some t) (h4 : evE c s2 = .ok z s2) (h5 : ordB l2 y z = some u) : evE (.chain l1 l2 a b c) s = .ok (.bl (t && u)) s2 := by
  show (evE a s).bind _ = _
  rw [h1, Out.bind_ok, h2, Out.bind_ok, h3, optB_some, Out.bind_ok]
  cases t with
  | false => rw [if_neg Bool.false_ne_true]; rfl
  | true => rw [if_pos rfl, h4, Out.bind_ok, h5, optB_some, Out.bind_ok]; rfl
theorem ct_chain {l1 l2 t u : Bool} {a b c : CE} {s s1 s2 : Sg} {x y z : D} (h1 : evE a s = .ok x s1) (h2 : evE b s1 = .ok y s2) (h3 : ordB l1 x y = some t) (h4 : evE c s2 = .ok z s2) (h5 : ordB l2 y z = some u) : evT (.chain l1 l2 a b c) s = .ok (t && u) s2 := by
  show (evE a s).bind _ = _
  rw [h1, Out.bind_ok, h2, Out.bind_ok, h3, optB_some, Out.bind_ok]
  cases t with
  | false => rw [if_neg Bool.false_ne_true]; rfl
  | true => rw [if_pos rfl, h4, Out.bind_ok, h5, optB_some]; rfl
theorem or_lt (i j : Int) : ordB false (.int i) (.int j) = some (decide (i < j)) := rfl
theorem or_le (i j : Int) : ordB true (.int i) (.int j) = some (decide (i ≤ j)) := rfl
theorem ct_var {i : Nat} {s : Sg} {d : D} {b : Bool} (h : gt s i = d) (h2 : tru d = some b) : evT (.var i) s = .ok b s := by
  show optB (tru (gt s i)) s = _
  rw [h, h2]
  rfl
theorem ct_not {a : CE} {s s1 : Sg} {b : Bool} (h : evT a s = .ok b s1) : evT (.not a) s = .ok (!b) s1 := by
  show (evT a s).bind _ = _
  rw [h]
  rfl
theorem ct_bool {op : Bool} {cs : CEs} {s : Sg} {o : Out Bool} (h : evBT op cs s = o) : evT (.bool op cs) s = o := h
theorem tb_one {op : Bool} {c : CE} {s : Sg} {o : Out Bool} (h : evT c s = o) : evBT op (.cons c .nil) s = o := h
theorem tb_and {c : CE} {cs : CEs} {s s1 : Sg} {b b2 : Bool} (h : evT c s = .ok b s1) (h2 : evBT true cs s1 = .ok b2 s1) : evBT true (.cons c cs) s = .ok (b && b2) s1 := by
  cases cs with
  | nil => cases h2
  | cons c2 r =>
    show (evT c s).bind _ = _
    rw [h, Out.bind_ok]
    cases b with
    | true => rw [if_pos rfl, h2]; rfl
    | false => rw [if_neg Bool.false_ne_true]; rfl
theorem tb_or {c : CE} {cs : CEs} {s s1 : Sg} {b b2 : Bool} (h : evT c s = .ok b s1) (h2 : evBT false cs s1 = .ok b2 s1) : evBT false (.cons c cs) s = .ok (b || b2) s1 := by
  cases cs with
  | nil => cases h2
  | cons c2 r =>
    show (evT c s).bind _ = _
    rw [h, Out.bind_ok]
    cases b with
    | false => rw [if_pos rfl, h2]; rfl
    | true => rw [if_neg (by decide)]; rfl
/-- the right side is asked only where the left one lets it -/
theorem tb_and' {c : CE} {cs : CEs} {s s1 : Sg} {b b2 : Bool} (h : evT c s = .ok b s1) (h2 : b = true → evBT true cs s1 = .ok b2 s1) (h3 : b = false → b2 = false) : evBT true (.cons c cs) s = .ok b2 s1 := by
  cases cs with
  | nil =>
    show evT c s = _
    rw [h]
    cases b with
    | true => cases h2 rfl
    | false => rw [h3 rfl]
  | cons c2 r =>
    show (evT c s).bind _ = _
    rw [h, Out.bind_ok]
    cases b with
    | true => rw [if_pos rfl, h2 rfl]
    | false => rw [if_neg Bool.false_ne_true, h3 rfl]
theorem tb_or' {c : CE} {cs : CEs} {s s1 : Sg} {b b2 : Bool} (h : evT c s = .ok b s1) (h2 : b = false → evBT false cs s1 = .ok b2 s1) (h3 : b = true → b2 = true) : evBT false (.cons c cs) s = .ok b2 s1 := by
  cases cs with
  | nil =>
    show evT c s = _
    rw [h]
    cases b with
    | false => cases h2 rfl
    | true => rw [h3 rfl]
  | cons c2 r =>
    show (evT c s).bind _ = _
    rw [h, Out.bind_ok]
    cases b with
    | false => rw [if_pos rfl, h2 rfl]
    | true => rw [if_neg (by decide), h3 rfl]
theorem ts_nil {s : Sg} : evTs .nil s = .ok true s := rfl
theorem ts_one {c : CE} {s : Sg} {o : Out Bool} (h : evT c s = o) : evTs (.cons c .nil) s = o := h
theorem ct_meth {M : Mt} {c : CE} {cs : CEs} {s s1 s2 : Sg} {o : D} {ds : List D} {d : D} {b : Bool} (h1 : evE c s = .ok o s1) (hr : M.recv o = true) (h2 : evEs cs s1 = .ok ds s2) (h3 : M.sem o ds = some d) (h4 : tru d = some b) : evT (.meth M c cs) s = .ok b s2 := by
  show (evE c s).bind _ = _
  rw [h1, Out.bind_ok, if_pos hr, h2, Out.bind_ok, h3, optD_some, Out.bind_ok, h4]
  rfl
/-! a comprehension that changes nothing -/
theorem wipe_len : ∀ (l : List Nat) (s : Sg), (wipe s l).length = s.length
  | [], _ => rfl
  | i :: r, s => by show ((wipe s r).set i .non).length = _; rw [List.length_set, wipe_len r s]
theorem rest_len (s0 : Sg) : ∀ (l : List Nat) (s : Sg), (rest s0 s l).length = s.length
  | [], _ => rfl
  | i :: r, s => by show ((rest s0 s r).set i _).length = _; rw [List.length_set, rest_len s0 r s]
theorem rest_of (s0 : Sg) : ∀ (l : List Nat) (s : Sg), s.length = s0.length → (∀ j, j ∉ l → s[j]? = s0[j]?) → rest s0 s l = s0
  | l, s, hl, h => by
    have key : ∀ (l : List Nat) (s : Sg), s.length = s0.length → ∀ j, (rest s0 s l)[j]? = if j ∈ l then s0[j]? else s[j]? := by
      intro l
      induction l with
      | nil => intro s _ j; simp [rest]
      | cons i r ih =>
        intro s hl j
        show ((rest s0 s r).set i (gt s0 i))[j]? = _
        rw [List.getElem?_set, ih s hl j, rest_len, hl]
        by_cases e : i = j
        · subst e
          rw [if_pos rfl, if_pos List.mem_cons_self]
          by_cases b : i < s0.length
          · rw [if_pos b]
            unfold gt
            rw [List.getElem?_eq_getElem b]
            rfl
          · rw [if_neg b]
            exact (List.getElem?_eq_none (by omega)).symm
        · rw [if_neg e]
          by_cases m : j ∈ r
          · rw [if_pos m, if_pos (List.mem_cons_of_mem _ m)]
          · rw [if_neg m, if_neg (by
              intro z
              rcases List.mem_cons.mp z with z | z
              · exact e z.symm
              · exact m z)]
    refine List.ext_getElem? fun j => ?_
    rw [key l s hl j]
    by_cases m : j ∈ l
    · rw [if_pos m]
    · rw [if_neg m, h j m]
theorem wipe_out : ∀ (l : List Nat) (s : Sg) (j : Nat), j ∉ l → (wipe s l)[j]? = s[j]?
  | [], _, _, _ => rfl
  | i :: r, s, j, h => by
    show ((wipe s r).set i .non)[j]? = _
    rw [List.getElem?_set_ne (fun e => h (by rw [e]; exact List.mem_cons_self)), wipe_out r s j fun m => h (List.mem_cons_of_mem _ m)]
/-- turns of a comprehension that leave all but its own names as they are -/
theorem comp_still {β : Type} {tg : Tg} {ifs : Sg → Out Bool} {elt : Sg → Out D} {own : List Nat} (enc : β → D) (p : β → Bool) (g : β → D) (w : Sg) : ∀ (xs : List β) (s : Sg) (acc : List D), wipe s own = w →
    (∀ x, x ∈ xs → ∃ s1, bnd tg (enc x) w = some s1 ∧ wipe s1 own = w ∧ ifs s1 = .ok (p x) s1 ∧ (p x = true → elt s1 = .ok (g x) s1)) → acc.length + xs.length ≤ 16777216 →
    ∃ s', compL tg ifs elt own (xs.map enc) s acc = .ok (acc ++ (xs.filter p).map g) s' ∧ wipe s' own = w
  | [], s, acc, hw, _, _ => ⟨s, by show Out.ok acc s = .ok (acc ++ []) s; rw [List.append_nil], hw⟩
  | x :: xs, s, acc, hw, st, hl => by
    rw [List.length_cons] at hl
    obtain ⟨s1, h1, h2, h3, h4⟩ := st x List.mem_cons_self
    have st' := fun y hy => st y (List.mem_cons_of_mem x hy)
    have unf : compL tg ifs elt own ((x :: xs).map enc) s acc = (ifs s1).bind fun b s2 => if b then (elt s2).bind fun y s3 => if acc.length < sizeLine then compL tg ifs elt own (xs.map enc) s3 (acc ++ [y]) else .stuck else compL tg ifs elt own (xs.map enc) s2 acc := by
      show (match bnd tg (enc x) (wipe s own) with
        | none => Out.stuck
        | some s1 => (ifs s1).bind fun b s2 => if b then (elt s2).bind fun y s3 => if acc.length < sizeLine then compL tg ifs elt own (xs.map enc) s3 (acc ++ [y]) else .stuck else compL tg ifs elt own (xs.map enc) s2 acc) = _
      rw [hw, h1]
    rw [unf, h3, Out.bind_ok]
    by_cases hp : p x = true
    · obtain ⟨s', q1, q2⟩ := comp_still enc p g w xs s1 (acc ++ [g x]) h2 st' (by rw [List.length_append, List.length_singleton]; omega)
      refine ⟨s', ?_, q2⟩
      rw [hp, if_pos rfl, h4 hp, Out.bind_ok, sizeLine_eq, if_pos (by omega), q1, List.filter_cons, hp, if_pos rfl, List.map_cons, List.append_assoc]
      rfl
    · obtain ⟨s', q1, q2⟩ := comp_still enc p g w xs s1 acc h2 st' (by omega)
      refine ⟨s', ?_, q2⟩
      have hp' : p x = false := by simpa using hp
      rw [hp', if_neg Bool.false_ne_true, q1, List.filter_cons, hp', if_neg Bool.false_ne_true]
theorem ce_compG {β : Type} {P : Ip} {cs : CEs} {tg : Tg} {ifs : CEs} {elt : CE} {own : List Nat} {s0 s w : Sg} {ds : List D} {xs : List β} {enc : β → D} {p : β → Bool} {g : β → D} (h1 : evEs cs s0 = .ok ds s) (h2 : P.sem ds = some (xs.map enc)) (hl : xs.length ≤ 16777216) (hw : wipe s own = w)
    (st : ∀ x, x ∈ xs → ∃ s1, bnd tg (enc x) w = some s1 ∧ wipe s1 own = w ∧ evTs ifs s1 = .ok (p x) s1 ∧ (p x = true → evE elt s1 = .ok (g x) s1)) : evE (.comp P cs tg ifs elt own) s0 = .ok (.lst ((xs.filter p).map g)) s := by
  obtain ⟨s', e1, e2⟩ := comp_still (ifs := fun s2 => evTs ifs s2) (elt := fun s2 => evE elt s2) enc p g w xs s [] hw st (by rw [List.length_nil]; omega)
  have e := e_comp h1 h2 e1
  have hr : rest s s' own = s := by
    have hlen : s'.length = s.length := by rw [← wipe_len own s', e2, ← hw, wipe_len]
    refine rest_of s own s' hlen fun j hj => ?_
    rw [← wipe_out own s' j hj, e2, ← hw, wipe_out own s j hj]
  rw [hr, List.nil_append] at e
  exact e
/-- of the keys of a dict -/
theorem ce_keys {β : Type} {i : Nat} {tg : Tg} {ifs : CEs} {elt : CE} {own : List Nat} {s w : Sg} {d : D} {xs : List β} {enc : β → D} {p : β → Bool} {g : β → D} (h1 : gt s i = d) (h2 : keysOf d = some (xs.map enc)) (hl : xs.length ≤ 16777216) (hw : wipe s own = w)
    (st : ∀ x, x ∈ xs → ∃ s1, bnd tg (enc x) w = some s1 ∧ wipe s1 own = w ∧ evTs ifs s1 = .ok (p x) s1 ∧ (p x = true → evE elt s1 = .ok (g x) s1)) : evE (.keys i tg ifs elt own) s = .ok (.lst ((xs.filter p).map g)) s := by
  obtain ⟨s', e1, e2⟩ := comp_still (ifs := fun s2 => evTs ifs s2) (elt := fun s2 => evE elt s2) enc p g w xs s [] hw st (by rw [List.length_nil]; omega)
  have hr : rest s s' own = s := by
    have hlen : s'.length = s.length := by rw [← wipe_len own s', e2, ← hw, wipe_len]
    refine rest_of s own s' hlen fun j hj => ?_
    rw [← wipe_out own s' j hj, e2, ← hw, wipe_out own s j hj]
  show (match keysOf (gt s i) with
    | none => Out.stuck
    | some items => ((compL tg (fun s2 => evTs ifs s2) (fun s2 => evE elt s2) own items s []).calm).bind fun acc s2 => Out.ok (D.lst acc) (rest s s2 own)) = _
  rw [h1, h2]
  dsimp only
  rw [e1]
  show Out.ok (D.lst _) (rest s s' own) = _
  rw [hr, List.nil_append]
theorem filter_all {β : Type} (xs : List β) : xs.filter (fun _ => true) = xs := List.filter_eq_self.mpr fun _ _ => rfl
theorem ce_compAG {β : Type} {P : Ip} {cs : CEs} {tg : Tg} {elt : CE} {own : List Nat} {s0 s w : Sg} {ds : List D} {xs : List β} {enc : β → D} {g : β → D} (h1 : evEs cs s0 = .ok ds s) (h2 : P.sem ds = some (xs.map enc)) (hl : xs.length ≤ 16777216) (hw : wipe s own = w)
    (st : ∀ x, x ∈ xs → ∃ s1, bnd tg (enc x) w = some s1 ∧ wipe s1 own = w ∧ evE elt s1 = .ok (g x) s1) : evE (.comp P cs tg .nil elt own) s0 = .ok (.lst (xs.map g)) s := by
  have h := ce_compG (ifs := .nil) (p := fun _ => true) (g := g) (tg := tg) (elt := elt) (own := own) h1 h2 hl hw fun x hx => by
    obtain ⟨s1, q1, q2, q3⟩ := st x hx
    exact ⟨s1, q1, q2, rfl, fun _ => q3⟩
  rw [filter_all] at h
  exact h
theorem ce_comp {β : Type} {P : Ip} {cs : CEs} {tg : Tg} {ifs : CEs} {elt : CE} {own : List Nat} {s w : Sg} {ds : List D} {xs : List β} {enc : β → D} {p : β → Bool} {g : β → D} (h1 : evEs cs s = .ok ds s) (h2 : P.sem ds = some (xs.map enc)) (hl : xs.length ≤ 16777216) (hw : wipe s own = w)
    (st : ∀ x, x ∈ xs → ∃ s1, bnd tg (enc x) w = some s1 ∧ wipe s1 own = w ∧ evTs ifs s1 = .ok (p x) s1 ∧ (p x = true → evE elt s1 = .ok (g x) s1)) : evE (.comp P cs tg ifs elt own) s = .ok (.lst ((xs.filter p).map g)) s := ce_compG h1 h2 hl hw st
theorem ce_compA {β : Type} {P : Ip} {cs : CEs} {tg : Tg} {elt : CE} {own : List Nat} {s w : Sg} {ds : List D} {xs : List β} {enc : β → D} {g : β → D} (h1 : evEs cs s = .ok ds s) (h2 : P.sem ds = some (xs.map enc)) (hl : xs.length ≤ 16777216) (hw : wipe s own = w)
    (st : ∀ x, x ∈ xs → ∃ s1, bnd tg (enc x) w = some s1 ∧ wipe s1 own = w ∧ evE elt s1 = .ok (g x) s1) : evE (.comp P cs tg .nil elt own) s = .ok (.lst (xs.map g)) s := ce_compAG h1 h2 hl hw st
/-- a comprehension, told by what it has put out so far -/
theorem comp_acc {β : Type} {tg : Tg} {ifs : Sg → Out Bool} {elt : Sg → Out D} {own : List Nat} (enc : β → D) (I : Nat → List D → Sg → Prop) : ∀ (xs : List β) (s : Sg) (acc : List D),
    (∀ n acc x s, x ∈ xs → I (n + 1) acc s → ∃ s1, bnd tg (enc x) (wipe s own) = some s1 ∧ ((∃ s2 s3 y, ifs s1 = .ok true s2 ∧ elt s2 = .ok y s3 ∧ I n (acc ++ [y]) s3) ∨ ∃ s2, ifs s1 = .ok false s2 ∧ I n acc s2)) → I xs.length acc s → acc.length + xs.length ≤ 16777216 →
    ∃ acc' s', compL tg ifs elt own (xs.map enc) s acc = .ok acc' s' ∧ I 0 acc' s'
  | [], s, acc, _, h, _ => ⟨acc, s, rfl, h⟩
  | x :: xs, s, acc, st, h, hl => by
    rw [List.length_cons] at hl
    obtain ⟨s1, h1, h2⟩ := st xs.length acc x s List.mem_cons_self h
    have st' := fun n acc y s hy => st n acc y s (List.mem_cons_of_mem x hy)
    have unf : compL tg ifs elt own ((x :: xs).map enc) s acc = (ifs s1).bind fun b s2 => if b then (elt s2).bind fun y s3 => if acc.length < sizeLine then compL tg ifs elt own (xs.map enc) s3 (acc ++ [y]) else .stuck else compL tg ifs elt own (xs.map enc) s2 acc := by
      show (match bnd tg (enc x) (wipe s own) with
        | none => Out.stuck
        | some s1 => (ifs s1).bind fun b s2 => if b then (elt s2).bind fun y s3 => if acc.length < sizeLine then compL tg ifs elt own (xs.map enc) s3 (acc ++ [y]) else .stuck else compL tg ifs elt own (xs.map enc) s2 acc) = _
      rw [h1]
    rw [unf]
    rcases h2 with ⟨s2, s3, y, e1, e2, e4⟩ | ⟨s2, e1, e4⟩
    · obtain ⟨a', s', q1, q2⟩ := comp_acc enc I xs s3 (acc ++ [y]) st' e4 (by rw [List.length_append, List.length_singleton]; omega)
      refine ⟨a', s', ?_, q2⟩
      rw [e1, Out.bind_ok, if_pos rfl, e2, Out.bind_ok, sizeLine_eq, if_pos (by omega), q1]
    · obtain ⟨a', s', q1, q2⟩ := comp_acc enc I xs s2 acc st' e4 (by omega)
      refine ⟨a', s', ?_, q2⟩
      rw [e1, Out.bind_ok, if_neg Bool.false_ne_true, q1]
theorem ce_compQ {β : Type} {P : Ip} {cs : CEs} {tg : Tg} {ifs : CEs} {elt : CE} {own : List Nat} {s s1 : Sg} {ds : List D} {xs : List β} (enc : β → D) (I : Nat → List D → Sg → Prop) (h1 : evEs cs s = .ok ds s1) (h2 : P.sem ds = some (xs.map enc)) (hl : xs.length ≤ 16777216) (h0 : I xs.length [] s1)
    (st : ∀ n acc x s, x ∈ xs → I (n + 1) acc s → ∃ s1, bnd tg (enc x) (wipe s own) = some s1 ∧ ((∃ s2 s3 y, evTs ifs s1 = .ok true s2 ∧ evE elt s2 = .ok y s3 ∧ I n (acc ++ [y]) s3) ∨ ∃ s2, evTs ifs s1 = .ok false s2 ∧ I n acc s2)) :
    ∃ acc s', evE (.comp P cs tg ifs elt own) s = .ok (.lst acc) (rest s1 s' own) ∧ I 0 acc s' := by
  obtain ⟨acc, s', q1, q2⟩ := comp_acc (ifs := fun s2 => evTs ifs s2) (elt := fun s2 => evE elt s2) enc I xs s1 [] st h0 (by rw [List.length_nil]; omega)
  exact ⟨acc, s', e_comp h1 h2 q1, q2⟩
/-- the same, by what is still to come -/
theorem comp_rest {β : Type} {tg : Tg} {ifs : Sg → Out Bool} {elt : Sg → Out D} {own : List Nat} (enc : β → D) (I : List β → List D → Sg → Prop) : ∀ (xs : List β) (s : Sg) (acc : List D),
    (∀ x r acc s, I (x :: r) acc s → ∃ s1, bnd tg (enc x) (wipe s own) = some s1 ∧ ((∃ s2 s3 y, ifs s1 = .ok true s2 ∧ elt s2 = .ok y s3 ∧ I r (acc ++ [y]) s3) ∨ ∃ s2, ifs s1 = .ok false s2 ∧ I r acc s2)) → I xs acc s → acc.length + xs.length ≤ 16777216 →
    ∃ acc' s', compL tg ifs elt own (xs.map enc) s acc = .ok acc' s' ∧ I [] acc' s'
  | [], s, acc, _, h, _ => ⟨acc, s, rfl, h⟩
  | x :: xs, s, acc, st, h, hl => by
    rw [List.length_cons] at hl
    obtain ⟨s1, h1, h2⟩ := st x xs acc s h
    have unf : compL tg ifs elt own ((x :: xs).map enc) s acc = (ifs s1).bind fun b s2 => if b then (elt s2).bind fun y s3 => if acc.length < sizeLine then compL tg ifs elt own (xs.map enc) s3 (acc ++ [y]) else .stuck else compL tg ifs elt own (xs.map enc) s2 acc := by
      show (match bnd tg (enc x) (wipe s own) with
        | none => Out.stuck
        | some s1 => (ifs s1).bind fun b s2 => if b then (elt s2).bind fun y s3 => if acc.length < sizeLine then compL tg ifs elt own (xs.map enc) s3 (acc ++ [y]) else .stuck else compL tg ifs elt own (xs.map enc) s2 acc) = _
      rw [h1]
    rw [unf]
    rcases h2 with ⟨s2, s3, y, e1, e2, e4⟩ | ⟨s2, e1, e4⟩
    · obtain ⟨a', s', q1, q2⟩ := comp_rest enc I xs s3 (acc ++ [y]) st e4 (by rw [List.length_append, List.length_singleton]; omega)
      refine ⟨a', s', ?_, q2⟩
      rw [e1, Out.bind_ok, if_pos rfl, e2, Out.bind_ok, sizeLine_eq, if_pos (by omega), q1]
    · obtain ⟨a', s', q1, q2⟩ := comp_rest enc I xs s2 acc st e4 (by omega)
      refine ⟨a', s', ?_, q2⟩
      rw [e1, Out.bind_ok, if_neg Bool.false_ne_true, q1]
theorem ce_compR {β : Type} {P : Ip} {cs : CEs} {tg : Tg} {ifs : CEs} {elt : CE} {own : List Nat} {s s1 : Sg} {ds : List D} {xs : List β} (enc : β → D) (I : List β → List D → Sg → Prop) (h1 : evEs cs s = .ok ds s1) (h2 : P.sem ds = some (xs.map enc)) (hl : xs.length ≤ 16777216) (h0 : I xs [] s1)
    (st : ∀ x r acc s, I (x :: r) acc s → ∃ s1, bnd tg (enc x) (wipe s own) = some s1 ∧ ((∃ s2 s3 y, evTs ifs s1 = .ok true s2 ∧ evE elt s2 = .ok y s3 ∧ I r (acc ++ [y]) s3) ∨ ∃ s2, evTs ifs s1 = .ok false s2 ∧ I r acc s2)) :
    ∃ acc s', evE (.comp P cs tg ifs elt own) s = .ok (.lst acc) (rest s1 s' own) ∧ I [] acc s' := by
  obtain ⟨acc, s', q1, q2⟩ := comp_rest (ifs := fun s2 => evTs ifs s2) (elt := fun s2 => evE elt s2) enc I xs s1 [] st h0 (by rw [List.length_nil]; omega)
  exact ⟨acc, s', e_comp h1 h2 q1, q2⟩
theorem ce_pop {i : Nat} {cs : CEs} {s s1 s2 : Sg} {ds : List D} {x y o : D} (h0 : isLst (gt s i) = true) (h1 : evEs cs s = .ok ds s1) (h2 : gt s1 i = o) (h3 : popAt o ds = some (x, y)) (h4 : s1.set i y = s2) : evE (.pop i cs) s = .ok x s2 := by
  show (if isLst (gt s i) = true then _ else _) = _
  rw [if_pos h0, h1, Out.bind_ok, h2, h3, ← h4]
theorem popL_at {xs : List D} {n : Nat} {x : D} (h : xs[n]? = some x) (hn : n < 9223372036854775808) : popAt (.lst xs) [.int (n : Nat)] = some (x, .lst (xs.eraseIdx n)) := by
  show (if (0 : Int) ≤ (n : Int) then (if (n : Int) < 9223372036854775808 then (match xs[((n : Nat) : Int).toNat]? with
    | some x => some (x, D.lst (xs.eraseIdx ((n : Nat) : Int).toNat))
    | none => none) else none) else none) = _
  rw [if_pos (by omega), if_pos (by omega), Int.toNat_natCast, h]
theorem popL_last {xs : List D} {x : D} (h : xs.getLast? = some x) : popAt (.lst xs) [] = some (x, .lst xs.dropLast) := by
  show (match xs.getLast? with
    | some x => some (x, D.lst xs.dropLast)
    | none => none) = _
  rw [h]
end G
end
section
set_option maxRecDepth 100000
namespace T
open PySem G
/-! ### the eight cells; forms as functions of them -/
abbrev Cl := Fin 8
def cl (c : Cl) : Str := ⟨#[97 + c.val]⟩
def cls : List Cl := [0, 1, 2, 3, 4, 5, 6, 7]
theorem cls_all (c : Cl) : c ∈ cls := by revert c; decide +kernel
theorem cls_nd : cls.Nodup := by decide +kernel
theorem cls_abc : cls.map cl = chars abc := by decide +kernel
theorem cl_inj {a b : Cl} (h : cl a = cl b) : a = b := by revert a b; decide +kernel
theorem abc_cl {c : Str} (h : c ∈ chars abc) : ∃ x : Cl, cl x = c := by
  rw [← cls_abc] at h
  obtain ⟨x, _, e⟩ := List.mem_map.mp h
  exact ⟨x, e⟩
theorem cl_abc (c : Cl) : cl c ∈ chars abc := by rw [← cls_abc]; exact List.mem_map_of_mem (cls_all c)
theorem cl_ok (c : Cl) : PyData.strOk (cl c) = true := abc_ok _ (cl_abc c)
theorem abc_nd : (chars abc).Nodup := abc_pw.imp fun h => h.2
/-- pairs of cell and number, of a function -/
def tmF (w : Cl → Int) (c : Cl) : Option (Str × Int) := if w c = 0 then none else some (cl c, w c)
def terms (w : Cl → Int) : Terms := cls.filterMap (tmF w)
theorem mem_terms {w : Cl → Int} {p : Str × Int} : p ∈ terms w ↔ ∃ c, p = (cl c, w c) ∧ w c ≠ 0 := by
  unfold terms
  rw [List.mem_filterMap]
  constructor
  · rintro ⟨c, _, e⟩
    unfold tmF at e
    split at e
    · cases e
    · rename_i h
      exact ⟨c, (Option.some.inj e).symm, h⟩
  · rintro ⟨c, rfl, h⟩
    exact ⟨c, cls_all c, if_neg h⟩
theorem cls_pw : cls.Pairwise fun a b => strLe (cl a) (cl b) = true ∧ cl a ≠ cl b := by decide +kernel
theorem terms_nrm (w : Cl → Int) : Nrm (terms w) := by
  constructor
  · unfold SK terms
    rw [List.pairwise_filterMap]
    refine cls_pw.imp fun {a b} hab p hp q hq => ?_
    unfold tmF at hp hq
    split at hp
    · cases hp
    · split at hq
      · cases hq
      · cases hp; cases hq; exact hab
  · intro p hp
    obtain ⟨c, rfl, h⟩ := mem_terms.mp hp
    exact h
theorem terms_ks (w : Cl → Int) : KS (chars abc) (terms w) := by
  intro p hp
  obtain ⟨c, rfl, h⟩ := mem_terms.mp hp
  exact cl_abc c
theorem terms_lk (w : Cl → Int) (c : Cl) : lk0 (cl c) (terms w) = w c := by
  by_cases h : w c = 0
  · rw [h]
    refine lk0_not fun m => ?_
    obtain ⟨p, hp, e⟩ := List.mem_map.mp m
    obtain ⟨d, rfl, hd⟩ := mem_terms.mp hp
    have : d = c := cl_inj e
    subst this
    exact hd h
  · exact ((mem_iff (terms_nrm w) (cl c, w c)).mp (mem_terms.mpr ⟨c, rfl, h⟩)).1
theorem terms_of {l : Terms} (n : Nrm l) (k : KS (chars abc) l) : l = terms fun c => lk0 (cl c) l := by
  refine nrm_ext n (terms_nrm _) fun c => ?_
  by_cases h : c ∈ chars abc
  · obtain ⟨x, rfl⟩ := abc_cl h
    rw [terms_lk]
  · rw [KS_lk k h, KS_lk (terms_ks _) h]
theorem terms_inj {u w : Cl → Int} (h : terms u = terms w) : u = w := by
  funext c
  rw [← terms_lk u, ← terms_lk w, h]
theorem terms_len (w : Cl → Int) : (terms w).length ≤ 8 := by
  have := KS_len (terms_ks w) (terms_nrm w).nd
  rw [abc_len] at this
  exact this
/-- a form -/
structure Fm where
  num : Int
  co : Cl → Int
theorem Fm.ext' {f g : Fm} (h1 : f.num = g.num) (h2 : ∀ c, f.co c = g.co c) : f = g := by
  cases f; cases g
  cases h1
  have : _ = _ := funext h2
  cases this
  rfl
def Fm.raw (f : Fm) : Form := (f.num, terms f.co)
def eF (f : Fm) : D := encF f.raw
theorem Fm.raw_inj {f g : Fm} (h : f.raw = g.raw) : f = g := by
  have h1 := congrArg Prod.fst h
  have h2 := congrArg Prod.snd h
  exact Fm.ext' h1 fun c => congrFun (terms_inj h2) c
theorem Fm.nrm (f : Fm) : Nrm f.raw.2 := terms_nrm _
theorem Fm.ks (f : Fm) : KS (chars abc) f.raw.2 := terms_ks _
theorem Fm.len (f : Fm) : f.raw.2.length ≤ 8 := terms_len _
theorem Fm.lk (f : Fm) (c : Cl) : lk0 (cl c) f.raw.2 = f.co c := terms_lk _ _
def ofRaw (f : Form) : Fm := ⟨f.1, fun c => lk0 (cl c) f.2⟩
theorem raw_of {f : Form} (n : Nrm f.2) (k : KS (chars abc) f.2) : (ofRaw f).raw = f := Prod.ext rfl (terms_of n k).symm
/-! sums over the cells -/
def s8 (w : Cl → Int) : Int := (cls.map w).sum
theorem s8_eq (w : Cl → Int) : s8 w = w 0 + (w 1 + (w 2 + (w 3 + (w 4 + (w 5 + (w 6 + (w 7 + 0))))))) := rfl
theorem s8_add (u v : Cl → Int) : s8 (fun c => u c + v c) = s8 u + s8 v := by rw [s8_eq, s8_eq, s8_eq]; omega
theorem s8_mulr (k : Int) (u : Cl → Int) : s8 (fun c => u c * k) = s8 u * k := by
  rw [s8_eq, s8_eq]
  simp only [Int.add_mul, Int.zero_mul]
theorem s8_mull (k : Int) (u : Cl → Int) : s8 (fun c => k * u c) = k * s8 u := by
  rw [s8_eq, s8_eq]
  simp only [Int.mul_add, Int.mul_zero]
theorem s8_zero : s8 (fun _ => 0) = 0 := rfl
theorem s8_swap (a : Cl → Cl → Int) : s8 (fun d => s8 fun c => a d c) = s8 fun c => s8 fun d => a d c := by
  simp only [s8_eq]
  omega
theorem sum_one {d : Cl} (v : Cl → Int) : ∀ l : List Cl, l.Nodup → (l.map fun c => (if c = d then 1 else 0) * v c).sum = if d ∈ l then v d else 0
  | [], _ => by simp
  | c :: r, h => by
    rw [List.nodup_cons] at h
    rw [List.map_cons, List.sum_cons, sum_one v r h.2]
    by_cases e : c = d
    · subst e
      rw [if_pos rfl, if_neg h.1, if_pos List.mem_cons_self]
      omega
    · rw [if_neg e]
      by_cases m : d ∈ r
      · rw [if_pos m, if_pos (List.mem_cons_of_mem _ m)]; omega
      · have m' : ¬ d ∈ c :: r := by
          intro z
          rcases List.mem_cons.mp z with z | z
          · exact e z.symm
          · exact m z
        rw [if_neg m, if_neg m']; omega
theorem s8_one (d : Cl) (v : Cl → Int) : s8 (fun c => (if c = d then 1 else 0) * v c) = v d := by
  have h := sum_one v cls (d := d) cls_nd
  rw [if_pos (cls_all d)] at h
  exact h
theorem sg_s8 (u : Str → Int) : sg (chars abc) u = s8 fun c => u (cl c) := by
  unfold sg s8
  rw [← cls_abc, List.map_map]
  rfl
/-! what is done to forms -/
def Fm.plus (f g : Fm) : Fm := ⟨f.num + g.num, fun c => f.co c + g.co c⟩
def Fm.times (f : Fm) (m : Int) : Fm := ⟨f.num * m, fun c => f.co c * m⟩
def Fm.none : Fm := ⟨0, fun _ => 0⟩
def Fm.just (d : Cl) : Fm := ⟨0, fun c => if c = d then 1 else 0⟩
/-- a form with others in place of its cells -/
def Fm.put (f : Fm) (t : Cl → Fm) : Fm := ⟨f.num + s8 (fun c => (t c).num * f.co c), fun d => s8 fun c => (t c).co d * f.co c⟩
def Fm.worth (f : Fm) (w : Cl → Int) : Int := f.num + s8 fun c => w c * f.co c
theorem raw_ext {f : Fm} {g : Form} (n : Nrm g.2) (k : KS (chars abc) g.2) (h1 : f.num = g.1) (h2 : ∀ c, f.co c = lk0 (cl c) g.2) : f.raw = g := by
  rw [← raw_of n k]
  congr 1
  exact Fm.ext' h1 h2
theorem plus_raw (f g : Fm) : (f.plus g).raw = plusV f.raw g.raw :=
  raw_ext (plus_nrm _ _) (plus_ks f.ks g.ks) rfl fun c => by rw [plus_lk _ f.nrm.nd g.nrm.nd, f.lk, g.lk]; rfl
theorem times_raw (f : Fm) (m : Int) : (f.times m).raw = timesV f.raw m :=
  raw_ext (times_nrm _ _) (times_ks f.ks) rfl fun c => by rw [times_lk _ _ f.nrm.nd, f.lk]; rfl
theorem none_raw : Fm.none.raw = (0, []) := raw_ext nrm_nil (KS_nil _) rfl fun _ => rfl
theorem just_raw (d : Cl) : (Fm.just d).raw = justV (cl d) := by
  refine raw_ext (g := justV (cl d)) ⟨List.pairwise_singleton _ _, fun p hp => by rw [List.mem_singleton.mp hp]; show (1 : Int) ≠ 0; decide⟩ (fun p hp => by rw [List.mem_singleton.mp hp]; exact cl_abc d) rfl fun c => ?_
  rw [just_lk]
  show (if c = d then (1 : Int) else 0) = _
  by_cases h : c = d
  · rw [if_pos h, if_pos (by rw [h])]
  · rw [if_neg h, if_neg fun e => h (cl_inj e).symm]
/-- a table of forms -/
def tabF (kvs : List (Cl × Fm)) : List (Str × Form) := kvs.map fun p => (cl p.1, p.2.raw)
def lkF (c : Cl) : List (Cl × Fm) → Option Fm
  | [] => none
  | p :: r => if p.1 = c then some p.2 else lkF c r
def imF (kvs : List (Cl × Fm)) (c : Cl) : Fm := (lkF c kvs).getD (Fm.just c)
theorem lkM_tab (c : Cl) : ∀ kvs : List (Cl × Fm), lkM (cl c) (tabF kvs) = (lkF c kvs).map Fm.raw
  | [] => rfl
  | p :: r => by
    show (if cl p.1 = cl c then some p.2.raw else lkM (cl c) (tabF r)) = Option.map Fm.raw (if p.1 = c then some p.2 else lkF c r)
    rw [lkM_tab c r]
    by_cases h : p.1 = c
    · rw [if_pos h, if_pos (by rw [h])]; rfl
    · rw [if_neg h, if_neg fun e => h (cl_inj e)]
theorem im_tab (kvs : List (Cl × Fm)) (c : Cl) : im (tabF kvs) (cl c) = (imF kvs c).raw := by
  unfold im imF
  rw [lkM_tab]
  cases lkF c kvs with
  | none => exact (just_raw c).symm
  | some f => rfl
theorem putStep_raw (kvs : List (Cl × Fm)) (a : Fm) (c : Cl) (m : Int) : putStep (tabF kvs) a.raw (cl c, m) = (a.plus ((imF kvs c).times m)).raw := by
  show plusV a.raw (timesV (im (tabF kvs) (cl c)) m) = _
  rw [im_tab, plus_raw, times_raw]
def eM (kvs : List (Cl × Fm)) : D := encM (tabF kvs)
theorem put_fold (kvs : List (Cl × Fm)) : ∀ (cs : List Cl) (w : Cl → Int) (a : Fm), ∃ b : Fm, (cs.filterMap (tmF w)).foldl (putStep (tabF kvs)) a.raw = b.raw ∧ b.num = a.num + (cs.map fun c => (imF kvs c).num * w c).sum ∧ ∀ d, b.co d = a.co d + (cs.map fun c => (imF kvs c).co d * w c).sum
  | [], w, a => ⟨a, rfl, by simp, by simp⟩
  | c :: cs, w, a => by
    by_cases h : w c = 0
    · obtain ⟨b, e1, e2, e3⟩ := put_fold kvs cs w a
      refine ⟨b, ?_, ?_, fun d => ?_⟩
      · rw [List.filterMap_cons, tmF, if_pos h]; exact e1
      · rw [e2, List.map_cons, List.sum_cons, h, Int.mul_zero, Int.zero_add]
      · rw [e3, List.map_cons, List.sum_cons, h, Int.mul_zero, Int.zero_add]
    · obtain ⟨b, e1, e2, e3⟩ := put_fold kvs cs w (a.plus ((imF kvs c).times (w c)))
      refine ⟨b, ?_, ?_, fun d => ?_⟩
      · rw [List.filterMap_cons, tmF, if_neg h]
        show List.foldl _ (putStep (tabF kvs) a.raw (cl c, w c)) _ = _
        rw [putStep_raw]
        exact e1
      · rw [e2, List.map_cons, List.sum_cons]
        show a.num + (imF kvs c).num * w c + _ = _
        omega
      · rw [e3, List.map_cons, List.sum_cons]
        show a.co d + (imF kvs c).co d * w c + _ = _
        omega
theorem put_raw (f : Fm) (kvs : List (Cl × Fm)) : putV f.raw (tabF kvs) = (f.put (imF kvs)).raw := by
  obtain ⟨b, e1, e2, e3⟩ := put_fold kvs cls f.co ⟨f.num, fun _ => 0⟩
  have h0 : (⟨f.num, fun _ => 0⟩ : Fm).raw = (f.num, []) := raw_ext nrm_nil (KS_nil _) rfl fun _ => rfl
  have hb : b = f.put (imF kvs) := Fm.ext' e2 fun d => by rw [e3 d]; show 0 + _ = _; rw [Int.zero_add]; rfl
  rw [← hb, ← e1, h0]
  rfl
/-! the laws -/
theorem Fm.put_itself (f : Fm) (t : Cl → Fm) (h : ∀ c, t c = Fm.just c) : f.put t = f := by
  refine Fm.ext' ?_ fun d => ?_
  · show f.num + s8 (fun c => (t c).num * f.co c) = f.num
    have : (fun c => (t c).num * f.co c) = fun _ => (0 : Int) := by funext c; rw [h]; exact Int.zero_mul _
    rw [this, s8_zero, Int.add_zero]
  · show s8 (fun c => (t c).co d * f.co c) = f.co d
    have : (fun c => (t c).co d * f.co c) = fun c => (if c = d then 1 else 0) * f.co c := by
      funext c
      rw [h]
      show (if d = c then (1 : Int) else 0) * f.co c = _
      by_cases e : c = d
      · rw [if_pos e, if_pos e.symm]
      · rw [if_neg e, if_neg fun z => e z.symm]
    rw [this, s8_one]
theorem Fm.put_plus (f g : Fm) (t : Cl → Fm) : (f.plus g).put t = (f.put t).plus (g.put t) := by
  refine Fm.ext' ?_ fun d => ?_
  · show f.num + g.num + s8 (fun c => (t c).num * (f.co c + g.co c)) = f.num + s8 (fun c => (t c).num * f.co c) + (g.num + s8 (fun c => (t c).num * g.co c))
    rw [show (fun c => (t c).num * (f.co c + g.co c)) = fun c => (t c).num * f.co c + (t c).num * g.co c from funext fun c => Int.mul_add _ _ _, s8_add]
    omega
  · show s8 (fun c => (t c).co d * (f.co c + g.co c)) = s8 (fun c => (t c).co d * f.co c) + s8 (fun c => (t c).co d * g.co c)
    rw [show (fun c => (t c).co d * (f.co c + g.co c)) = fun c => (t c).co d * f.co c + (t c).co d * g.co c from funext fun c => Int.mul_add _ _ _, s8_add]
theorem Fm.worth_put (f : Fm) (t : Cl → Fm) (w : Cl → Int) : (f.put t).worth w = f.worth fun c => (t c).worth w := by
  show f.num + s8 _ + s8 (fun d => w d * s8 fun c => (t c).co d * f.co c) = f.num + s8 fun c => ((t c).num + s8 fun d => w d * (t c).co d) * f.co c
  have e1 : (fun d => w d * s8 fun c => (t c).co d * f.co c) = fun d => s8 fun c => w d * ((t c).co d * f.co c) := funext fun d => (s8_mull _ _).symm
  have e2 : (fun c => ((t c).num + s8 fun d => w d * (t c).co d) * f.co c) = fun c => (t c).num * f.co c + s8 fun d => w d * ((t c).co d * f.co c) := by
    funext c
    rw [Int.add_mul, ← s8_mulr]
    congr 2
    funext d
    exact Int.mul_assoc _ _ _
  rw [e1, e2, s8_add, s8_swap]
  show f.num + s8 (fun c => (t c).num * f.co c) + _ = _
  omega
theorem Fm.worth_times (f : Fm) (m : Int) (w : Cl → Int) : (f.times m).worth w = m * f.worth w := by
  show f.num * m + s8 (fun c => w c * (f.co c * m)) = m * (f.num + s8 fun c => w c * f.co c)
  rw [show (fun c => w c * (f.co c * m)) = fun c => m * (w c * f.co c) from funext fun c => by rw [← Int.mul_assoc, Int.mul_comm], s8_mull, Int.mul_add, Int.mul_comm]
end T
end
section
set_option maxRecDepth 10000
/-! Data with a Lean type: how they stand, and that they are compared as they are. -/
namespace G
open PySem
structure Dat (α : Type) where
  enc : α → D
  py : α → PyData
  to : ∀ x, toP (enc x) = some (py x)
  lay : ∀ x, PyData.canLay0 (py x) = true
  dep : Nat
  hdep : ∀ x, PyData.depth (py x) ≤ dep
  eq : ∀ x y, PyData.eqv (py x) (py y) = true ↔ x = y
namespace Dat
variable {α β γ : Type}
theorem shaped (A : Dat α) (h : A.dep ≤ 64) (x : α) : SeqAt.shaped (A.py x) = true :=
  Bool.and_eq_true_iff.mpr ⟨A.lay x, decide_eq_true (Nat.le_trans (A.hdep x) h)⟩
theorem eqv_dec [DecidableEq α] (A : Dat α) (x y : α) : PyData.eqv (A.py x) (A.py y) = decide (x = y) := by
  by_cases h : x = y
  · rw [decide_eq_true h]; exact (A.eq x y).mpr h
  · rw [decide_eq_false h]
    cases e : PyData.eqv (A.py x) (A.py y) with
    | false => rfl
    | true => exact absurd ((A.eq x y).mp e) h
theorem dataEq [DecidableEq α] (A : Dat α) (h : A.dep ≤ 64) (x y : α) : G.dataEq (A.enc x) (A.enc y) = some (decide (x = y)) := by
  unfold G.dataEq
  rw [A.to, A.to]
  dsimp only
  rw [A.shaped h, A.shaped h, if_pos (by rfl : (true && true) = true), A.eqv_dec]
theorem l_eq [DecidableEq α] (A : Dat α) (h : A.dep ≤ 64) (x y : α) : pEq.sem [A.enc x, A.enc y] = some (.bl (decide (x = y))) := by
  show (G.dataEq _ _).map _ = _
  rw [A.dataEq h]
  rfl
theorem l_ne [DecidableEq α] (A : Dat α) (h : A.dep ≤ 64) (x y : α) : pNe.sem [A.enc x, A.enc y] = some (.bl (!decide (x = y))) := by
  show (G.dataEq _ _).map _ = _
  rw [A.dataEq h]
  rfl
theorem toPs_map (A : Dat α) : ∀ xs : List α, toPs (xs.map A.enc) = some (xs.map A.py)
  | [] => rfl
  | x :: r => by
    show (match toP (A.enc x), toPs (r.map A.enc) with
      | some p, some ps => some (p :: ps)
      | _, _ => none) = _
    rw [A.to, A.toPs_map r]
    rfl
theorem lay_map (A : Dat α) : ∀ xs : List α, PyData.canLayAll0 (xs.map A.py) = true
  | [] => rfl
  | x :: r => by
    show (PyData.canLay0 (A.py x) && PyData.canLayAll0 (r.map A.py)) = true
    rw [A.lay, A.lay_map r]
    rfl
theorem dep_map (A : Dat α) : ∀ xs : List α, PyData.depthAll (xs.map A.py) ≤ A.dep
  | [] => Nat.zero_le _
  | x :: r => by
    show max (PyData.depth (A.py x)) (PyData.depthAll (r.map A.py)) ≤ A.dep
    have h1 := A.hdep x
    have h2 := A.dep_map r
    omega
theorem eq_map (A : Dat α) : ∀ xs ys : List α, PyData.eqvAll (xs.map A.py) (ys.map A.py) = true ↔ xs = ys
  | [], [] => by simp [PyData.eqvAll]
  | [], y :: ys => by simp [PyData.eqvAll]
  | x :: xs, [] => by simp [PyData.eqvAll]
  | x :: xs, y :: ys => by
    rw [List.map_cons, List.map_cons]
    show (PyData.eqv (A.py x) (A.py y) && PyData.eqvAll (xs.map A.py) (ys.map A.py)) = true ↔ _
    rw [Bool.and_eq_true, A.eq, A.eq_map xs ys]
    constructor
    · rintro ⟨rfl, rfl⟩; rfl
    · intro e; cases e; exact ⟨rfl, rfl⟩
/-- whole numbers -/
def int : Dat Int where
  enc := .int
  py := .int
  to _ := rfl
  lay _ := rfl
  dep := 0
  hdep _ := Nat.le_refl _
  eq x y := by
    show (x == y) = true ↔ _
    exact beq_iff_eq
def bl : Dat Bool where
  enc := .bl
  py := .bool
  to _ := rfl
  lay _ := rfl
  dep := 0
  hdep _ := Nat.le_refl _
  eq x y := by
    show (x == y) = true ↔ _
    exact beq_iff_eq
/-- numbers from 0 on -/
def nat : Dat Nat where
  enc n := .int n
  py n := .int n
  to _ := rfl
  lay _ := rfl
  dep := 0
  hdep _ := Nat.le_refl _
  eq x y := by
    show ((x : Int) == (y : Int)) = true ↔ _
    rw [beq_iff_eq]
    omega
/-- texts of a kind -/
def str (f : α → Str) (ok : ∀ x, PyData.strOk (f x) = true) (inj : ∀ x y, f x = f y → x = y) : Dat α where
  enc x := .str (f x)
  py x := .str (f x)
  to _ := rfl
  lay x := ok x
  dep := 0
  hdep _ := Nat.le_refl _
  eq x y := by
    show (f x == f y) = true ↔ _
    rw [beq_iff_eq]
    exact ⟨inj x y, fun e => by rw [e]⟩
/-- a tuple of like ones -/
def tup (A : Dat α) : Dat (List α) where
  enc xs := .tup (xs.map A.enc)
  py xs := .tuple (xs.map A.py)
  to xs := by
    show (match toPs (xs.map A.enc) with
      | some ps => some (PyData.tuple ps)
      | none => none) = _
    rw [A.toPs_map]
  lay xs := A.lay_map xs
  dep := A.dep + 1
  hdep xs := Nat.succ_le_succ (A.dep_map xs)
  eq xs ys := A.eq_map xs ys
/-- a list of like ones -/
def lst (A : Dat α) : Dat (List α) where
  enc xs := .lst (xs.map A.enc)
  py xs := .list (xs.map A.py)
  to xs := by
    show (match toPs (xs.map A.enc) with
      | some ps => some (PyData.list ps)
      | none => none) = _
    rw [A.toPs_map]
  lay xs := A.lay_map xs
  dep := A.dep + 1
  hdep xs := Nat.succ_le_succ (A.dep_map xs)
  eq xs ys := A.eq_map xs ys
theorem to2 {a b : D} {p q : PyData} (h1 : toP a = some p) (h2 : toP b = some q) : toPs [a, b] = some [p, q] := by
  show (match toP a, (match toP b, toPs [] with
      | some p, some ps => some (p :: ps)
      | _, _ => none) with
      | some p, some ps => some (p :: ps)
      | _, _ => none) = _
  rw [h1, h2]
  rfl
theorem to3 {a b c : D} {p q r : PyData} (h1 : toP a = some p) (h2 : toP b = some q) (h3 : toP c = some r) : toPs [a, b, c] = some [p, q, r] := by
  show (match toP a, toPs [b, c] with
      | some p, some ps => some (p :: ps)
      | _, _ => none) = _
  rw [h1, to2 h2 h3]
def two (A : Dat α) (B : Dat β) : Dat (α × β) where
  enc p := .tup [A.enc p.1, B.enc p.2]
  py p := .tuple [A.py p.1, B.py p.2]
  to p := by
    show (match toPs [A.enc p.1, B.enc p.2] with
      | some ps => some (PyData.tuple ps)
      | none => none) = _
    rw [to2 (A.to _) (B.to _)]
  lay p := by
    show (PyData.canLay0 (A.py p.1) && (PyData.canLay0 (B.py p.2) && true)) = true
    rw [A.lay, B.lay]
    rfl
  dep := max A.dep B.dep + 1
  hdep p := by
    show max (PyData.depth (A.py p.1)) (max (PyData.depth (B.py p.2)) 0) + 1 ≤ _
    have h1 := A.hdep p.1
    have h2 := B.hdep p.2
    omega
  eq p q := by
    show (PyData.eqv (A.py p.1) (A.py q.1) && (PyData.eqv (B.py p.2) (B.py q.2) && PyData.eqvAll [] [])) = true ↔ _
    rw [Bool.and_eq_true, Bool.and_eq_true, A.eq, B.eq]
    constructor
    · rintro ⟨h1, h2, _⟩; exact Prod.ext h1 h2
    · intro e; cases e; exact ⟨rfl, rfl, by simp [PyData.eqvAll]⟩
def three (A : Dat α) (B : Dat β) (C : Dat γ) : Dat (α × β × γ) where
  enc p := .tup [A.enc p.1, B.enc p.2.1, C.enc p.2.2]
  py p := .tuple [A.py p.1, B.py p.2.1, C.py p.2.2]
  to p := by
    show (match toPs [A.enc p.1, B.enc p.2.1, C.enc p.2.2] with
      | some ps => some (PyData.tuple ps)
      | none => none) = _
    rw [to3 (A.to _) (B.to _) (C.to _)]
  lay p := by
    show (PyData.canLay0 (A.py p.1) && (PyData.canLay0 (B.py p.2.1) && (PyData.canLay0 (C.py p.2.2) && true))) = true
    rw [A.lay, B.lay, C.lay]
    rfl
  dep := max A.dep (max B.dep C.dep) + 1
  hdep p := by
    show max (PyData.depth (A.py p.1)) (max (PyData.depth (B.py p.2.1)) (max (PyData.depth (C.py p.2.2)) 0)) + 1 ≤ _
    have h1 := A.hdep p.1
    have h2 := B.hdep p.2.1
    have h3 := C.hdep p.2.2
    omega
  eq p q := by
    show (PyData.eqv (A.py p.1) (A.py q.1) && (PyData.eqv (B.py p.2.1) (B.py q.2.1) && (PyData.eqv (C.py p.2.2) (C.py q.2.2) && PyData.eqvAll [] []))) = true ↔ _
    rw [Bool.and_eq_true, Bool.and_eq_true, Bool.and_eq_true, A.eq, B.eq, C.eq]
    constructor
    · rintro ⟨h1, h2, h3, _⟩; exact Prod.ext h1 (Prod.ext h2 h3)
    · intro e; cases e; exact ⟨rfl, rfl, rfl, by simp [PyData.eqvAll]⟩
/-- as another kind that tells all -/
def via (A : Dat α) (f : β → α) (inj : ∀ x y, f x = f y → x = y) : Dat β where
  enc x := A.enc (f x)
  py x := A.py (f x)
  to x := A.to _
  lay x := A.lay _
  dep := A.dep
  hdep x := A.hdep _
  eq x y := by
    rw [A.eq]
    exact ⟨inj x y, fun e => by rw [e]⟩
/-- among many -/
theorem anyEq [DecidableEq α] (A : Dat α) (x : α) : ∀ ys : List α, ((ys.map A.py).any fun z => PyData.eqv z (A.py x)) = decide (x ∈ ys)
  | [] => by simp
  | y :: r => by
    rw [List.map_cons, List.any_cons, A.anyEq x r, A.eqv_dec]
    by_cases h : y = x
    · subst h; simp
    · have h' : ¬ x = y := fun e => h e.symm
      simp [h, h']
theorem dataIn_tup [DecidableEq α] (A : Dat α) (h : A.dep < 64) (x : α) (ys : List α) : dataIn (A.enc x) (ys.map A.enc) .tuple = some (decide (x ∈ ys)) := by
  unfold dataIn
  rw [A.to, A.toPs_map]
  dsimp only
  have h2 : SeqAt.shaped (.tuple (ys.map A.py)) = true := A.tup.shaped (by show A.dep + 1 ≤ 64; omega) ys
  rw [A.shaped (by omega), h2, if_pos (by rfl : (true && true) = true), A.anyEq]
theorem dataIn_lst [DecidableEq α] (A : Dat α) (h : A.dep < 64) (x : α) (ys : List α) : dataIn (A.enc x) (ys.map A.enc) .list = some (decide (x ∈ ys)) := by
  unfold dataIn
  rw [A.to, A.toPs_map]
  dsimp only
  have h2 : SeqAt.shaped (.list (ys.map A.py)) = true := A.lst.shaped (by show A.dep + 1 ≤ 64; omega) ys
  rw [A.shaped (by omega), h2, if_pos (by rfl : (true && true) = true), A.anyEq]
theorem inB_lst (x : D) (ys : List D) : inB x (.lst ys) = dataIn x ys .list := by cases x <;> rfl
theorem inB_tup (x : D) (ys : List D) : inB x (.tup ys) = dataIn x ys .tuple := by cases x <;> rfl
theorem l_in_lst [DecidableEq α] (A : Dat α) (h : A.dep < 64) (x : α) (ys : List α) : pIn.sem [A.enc x, .lst (ys.map A.enc)] = some (.bl (decide (x ∈ ys))) := by
  show (inB _ _).map _ = _
  rw [inB_lst, A.dataIn_lst h]
  rfl
theorem l_in_tup [DecidableEq α] (A : Dat α) (h : A.dep < 64) (x : α) (ys : List α) : pIn.sem [A.enc x, .tup (ys.map A.enc)] = some (.bl (decide (x ∈ ys))) := by
  show (inB _ _).map _ = _
  rw [inB_tup, A.dataIn_tup h]
  rfl
theorem l_nin_lst [DecidableEq α] (A : Dat α) (h : A.dep < 64) (x : α) (ys : List α) : pNin.sem [A.enc x, .lst (ys.map A.enc)] = some (.bl (!decide (x ∈ ys))) := by
  show (inB _ _).map _ = _
  rw [inB_lst, A.dataIn_lst h]
  rfl
theorem l_nin_tup [DecidableEq α] (A : Dat α) (h : A.dep < 64) (x : α) (ys : List α) : pNin.sem [A.enc x, .tup (ys.map A.enc)] = some (.bl (!decide (x ∈ ys))) := by
  show (inB _ _).map _ = _
  rw [inB_tup, A.dataIn_tup h]
  rfl
end Dat
/-! leaves -/
theorem l_add (i j : Int) : pAdd.sem [.int i, .int j] = some (.int (i + j)) := rfl
theorem l_sub (i j : Int) : pSub.sem [.int i, .int j] = some (.int (i - j)) := rfl
theorem l_neg (i : Int) : pNeg.sem [.int i] = some (.int (-i)) := rfl
theorem l_mul {i j : Int} (h : i.natAbs < 18446744073709551616 ∨ j.natAbs < 18446744073709551616) : pMul.sem [.int i, .int j] = some (.int (i * j)) := by
  rcases h with h | h
  · exact mul_l h
  · exact mul_r h
theorem l_div {i j : Int} (h : 0 < j ∧ j < 1073741824) : pDiv.sem [.int i, .int j] = some (.int (i / j)) := div_int h
theorem l_mod {i j : Int} (h : 0 < j) : pMod.sem [.int i, .int j] = some (.int (i % j)) := mod_int h
theorem l_eqi (i j : Int) : pEq.sem [.int i, .int j] = some (.bl (decide (i = j))) := Dat.int.l_eq (Nat.zero_le _) i j
theorem l_nei (i j : Int) : pNe.sem [.int i, .int j] = some (.bl (!decide (i = j))) := Dat.int.l_ne (Nat.zero_le _) i j
theorem l_lti (i j : Int) : pLt.sem [.int i, .int j] = some (.bl (decide (i < j))) := rfl
theorem l_lei (i j : Int) : pLe.sem [.int i, .int j] = some (.bl (decide (i ≤ j))) := rfl
theorem l_gti (i j : Int) : pGt.sem [.int i, .int j] = some (.bl (decide (j < i))) := rfl
theorem l_gei (i j : Int) : pGe.sem [.int i, .int j] = some (.bl (decide (j ≤ i))) := rfl
theorem l_lst {ds : List D} (h : Nat.ble ds.length 16777216 = true) : pLst.sem ds = some (.lst ds) := pLst_of ds (Nat.le_of_ble_eq_true h)
theorem l_tup {ds : List D} (h : Nat.ble ds.length 16777216 = true) : pTup.sem ds = some (.tup ds) := by
  show (if ds.length ≤ sizeLine then some (D.tup ds) else none) = _
  rw [sizeLine_eq, if_pos (Nat.le_of_ble_eq_true h)]
theorem l_lenT (xs : List D) : pLen.sem [.tup xs] = some (.int xs.length) := rfl
theorem l_lenL (xs : List D) : pLen.sem [.lst xs] = some (.int xs.length) := rfl
theorem l_lenS (ns : List Int) : pLen.sem [.scr ns] = some (.int ns.length) := rfl
theorem l_tupleL (xs : List D) : pTuple.sem [.lst xs] = some (.tup xs) := rfl
theorem ix_n {xs : List D} {i : Nat} {d : D} (h : xs[i]? = some d) : pIx.sem [.tup xs, .int (i : Nat)] = some d := L2.atI_nat h
theorem l_ix0 (a : D) (xs : List D) : pIx.sem [.tup (a :: xs), .int 0] = some a := ix_n (i := 0) rfl
theorem l_ix1 (a b : D) (xs : List D) : pIx.sem [.tup (a :: b :: xs), .int 1] = some b := ix_n (i := 1) rfl
theorem l_ix2 (a b c : D) (xs : List D) : pIx.sem [.tup (a :: b :: c :: xs), .int 2] = some c := ix_n (i := 2) rfl
theorem l_ixL {xs : List D} {i : Int} {d : D} (h0 : 0 ≤ i) (h : xs[i.toNat]? = some d) : pIx.sem [.lst xs, .int i] = some d := by
  have e : i = ((i.toNat : Nat) : Int) := by omega
  rw [e]
  exact L2.atI_nat h
theorem l_ixT {xs : List D} {i : Int} {d : D} (h0 : 0 ≤ i) (h : xs[i.toNat]? = some d) : pIx.sem [.tup xs, .int i] = some d := by
  have e : i = ((i.toNat : Nat) : Int) := by omega
  rw [e]
  exact L2.atI_nat h
theorem l_seqT (xs : List D) : iSeq.sem [.tup xs] = some xs := rfl
theorem l_seqL (xs : List D) : iSeq.sem [.lst xs] = some xs := rfl
theorem l_app {xs : List D} {v : D} (h : xs.length < 16777216) : appTo (.lst xs) v = some (.lst (xs ++ [v])) := by
  show (if xs.length < sizeLine then _ else _) = _
  rw [sizeLine_eq, if_pos h]
theorem l_ext {xs ys : List D} (h : xs.length + ys.length ≤ 16777216) : extTo (.lst xs) (.lst ys) = some (.lst (xs ++ ys)) := by
  show (if xs.length + ys.length ≤ sizeLine then _ else _) = _
  rw [sizeLine_eq, if_pos h]
theorem l_isLst (xs : List D) : isLst (.lst xs) = true := rfl
theorem l_isDk (xs : List (Ky × D)) : isDk (.dk xs) = true := rfl
theorem ble_lt {i n : Nat} (h : Nat.ble (i + 1) n = true) : i < n := Nat.le_of_ble_eq_true h
end G
end
section
set_option maxRecDepth 100000
namespace T
open PySem G
def encPF (p : Str × Form) : D := .tup [.str p.1, encF p.2]
theorem pairs_pf : ∀ ts : List (Str × Form), pairsD (ts.map encPF) = some (ts.map kvF)
  | [] => rfl
  | p :: ts => by
    show (match pairD (encPF p), pairsD (ts.map encPF) with
      | some q, some ps => some (q :: ps)
      | _, _ => none) = _
    rw [pairs_pf ts]
    rfl
theorem put_new {k : Ky} {v : D} {kvs : List (Ky × D)} (h : ∀ p ∈ kvs, p.1 ≠ k) : G.putK k v kvs = kvs ++ [(k, v)] := by
  unfold G.putK
  rw [if_neg]
  intro z
  obtain ⟨p, hp, e⟩ := List.any_eq_true.mp z
  exact h p hp (of_decide_eq_true e)
theorem merge_new : ∀ (ts kvs : List (Ky × D)), ((kvs ++ ts).map (·.1)).Nodup → mergeD kvs ts = kvs ++ ts
  | [], kvs, _ => by rw [List.append_nil]; rfl
  | (k, v) :: r, kvs, h => by
    have h1 : ∀ p ∈ kvs, p.1 ≠ k := by
      rw [List.map_append, List.nodup_append] at h
      intro p hp e
      exact h.2.2 p.1 (List.mem_map_of_mem hp) k (by simp) e
    show mergeD (G.putK k v kvs) r = _
    rw [put_new h1, merge_new r _ (by rw [List.append_assoc]; exact h), List.append_assoc]
    rfl
theorem dict_pf (l : List (Str × Form)) (h : (l.map (·.1)).Nodup) : dictS (.lst (l.map encPF)) = some (encM l) := by
  show (pairsD (l.map encPF)).map (fun ps => D.dk (mergeD [] ps)) = _
  rw [pairs_pf]
  show some (D.dk (mergeD [] (l.map kvF))) = _
  rw [merge_new]
  · rfl
  · rw [List.nil_append, List.map_map]
    rw [List.Nodup, List.pairwise_map] at h ⊢
    exact h.imp fun {a b} hab e => hab (Sum.inr.inj e)
end T
end
section
set_option maxRecDepth 100000
namespace T
open PySem G
/-! ### deeds, rows, stores as data -/
structure Deed where
  name : Str
  ticks : Int
  parts : List (Cl × Fm)
def eP (p : Cl × Fm) : D := .tup [.str (cl p.1), eF p.2]
def eD (d : Deed) : D := .tup [.str d.name, .int d.ticks, .tup (d.parts.map eP)]
def eR (r : List Deed) : D := .tup (r.map eD)
def eS (w : Cl → Int) : D := encT (terms w)
/-- small numbers: of so many binary figures -/
def sm (k : Nat) (i : Int) : Prop := i.natAbs < 2 ^ k
theorem sm_le {a b : Nat} {i : Int} (h : sm a i) (l : a ≤ b) : sm b i := Nat.lt_of_lt_of_le h (Nat.pow_le_pow_right (by decide) l)
theorem sm_add {a : Nat} {i j : Int} (h1 : sm a i) (h2 : sm a j) : sm (a + 1) (i + j) := by
  unfold sm at *
  rw [Nat.pow_succ]
  omega
theorem sm_mul {a b : Nat} {i j : Int} (h1 : sm a i) (h2 : sm b j) : sm (a + b) (i * j) := by
  unfold sm at *
  rw [Int.natAbs_mul, Nat.pow_add]
  exact Nat.mul_lt_mul_of_lt_of_lt h1 h2
theorem sm_zero (a : Nat) : sm a 0 := Nat.pow_pos (by decide)
theorem sm_one : sm 1 1 := by unfold sm; decide
theorem log_le {n a : Nat} (h : n < 2 ^ a) : n.log2 ≤ a := by
  by_cases z : n = 0
  · rw [z]; exact Nat.zero_le _
  · exact Nat.le_of_lt ((Nat.log2_lt z).mpr h)
theorem mulB_sm {a b : Nat} {i j : Int} (h1 : sm a i) (h2 : sm b j) (h : a + b < 1000000) : mulB i j = true := by
  have l1 := log_le h1
  have l2 := log_le h2
  unfold mulB
  have : i.natAbs.log2 + j.natAbs.log2 < 1000000 := by omega
  simp [this]
theorem sm_s8 {a : Nat} {u : Cl → Int} (h : ∀ c, sm a (u c)) : sm (a + 3) (s8 u) := by
  rw [s8_eq]
  have h0 := h 0
  have h1 := h 1
  have h2 := h 2
  have h3 := h 3
  have h4 := h 4
  have h5 := h 5
  have h6 := h 6
  have h7 := h 7
  unfold sm at *
  have : 2 ^ (a + 3) = 8 * 2 ^ a := by rw [Nat.pow_add]; omega
  rw [this]
  omega
def Fm.sm (k : Nat) (f : Fm) : Prop := T.sm k f.num ∧ ∀ c, T.sm k (f.co c)
theorem Fm.sm_le {a b : Nat} {f : Fm} (h : f.sm a) (l : a ≤ b) : f.sm b := ⟨T.sm_le h.1 l, fun c => T.sm_le (h.2 c) l⟩
theorem Fm.sm_just (c : Cl) : (Fm.just c).sm 1 := ⟨sm_zero 1, fun d => by
  show T.sm 1 (if d = c then 1 else 0)
  split
  · exact sm_one
  · exact sm_zero 1⟩
theorem Fm.sm_put {a b : Nat} {f : Fm} {t : Cl → Fm} (hf : f.sm a) (ht : ∀ c, (t c).sm b) : (f.put t).sm (a + b + 4) := by
  refine ⟨?_, fun d => ?_⟩
  · have h := sm_s8 (u := fun c => (t c).num * f.co c) (a := b + a) fun c => sm_mul (ht c).1 (hf.2 c)
    have h2 := sm_add (T.sm_le hf.1 (show a ≤ b + a + 3 by omega)) h
    exact T.sm_le h2 (by omega)
  · exact T.sm_le (sm_s8 (u := fun c => (t c).co d * f.co c) (a := b + a) fun c => sm_mul ((ht c).2 d) (hf.2 c)) (by omega)
theorem Fm.sm_worth {a b : Nat} {f : Fm} {w : Cl → Int} (hf : f.sm a) (hw : ∀ c, T.sm b (w c)) : T.sm (a + b + 4) (f.worth w) := by
  have h := sm_s8 (u := fun c => w c * f.co c) (a := b + a) fun c => sm_mul (hw c) (hf.2 c)
  have h2 := sm_add (T.sm_le hf.1 (show a ≤ b + a + 3 by omega)) h
  exact T.sm_le h2 (by omega)
/-- a deed that may be reckoned with -/
structure DOk (k : Nat) (d : Deed) : Prop where
  up : (d.parts.map (·.1)).Pairwise (· < ·)
  sm : ∀ p ∈ d.parts, p.2.sm k
theorem DOk.nd {k : Nat} {d : Deed} (h : DOk k d) : (d.parts.map (·.1)).Nodup := h.up.imp fun h => Fin.ne_of_lt h
theorem DOk.le {a b : Nat} {d : Deed} (h : DOk a d) (l : a ≤ b) : DOk b d := ⟨h.up, fun p hp => Fm.sm_le (h.sm p hp) l⟩
theorem lkF_of {kvs : List (Cl × Fm)} (h : (kvs.map (·.1)).Nodup) {p : Cl × Fm} (hp : p ∈ kvs) : lkF p.1 kvs = some p.2 := by
  induction kvs with
  | nil => cases hp
  | cons q r ih =>
    rw [List.map_cons, List.nodup_cons] at h
    show (if q.1 = p.1 then some q.2 else lkF p.1 r) = _
    rcases List.mem_cons.mp hp with rfl | hp
    · rw [if_pos rfl]
    · rw [if_neg fun z => h.1 (by rw [z]; exact List.mem_map_of_mem hp)]
      exact ih h.2 hp
theorem lkF_mem {c : Cl} {f : Fm} : ∀ {kvs : List (Cl × Fm)}, lkF c kvs = some f → (c, f) ∈ kvs
  | [], h => by cases h
  | p :: r, h => by
    have h' : (if p.1 = c then some p.2 else lkF c r) = some f := h
    by_cases e : p.1 = c
    · rw [if_pos e] at h'
      cases h'
      rw [← e]
      exact List.mem_cons_self
    · rw [if_neg e] at h'
      exact List.mem_cons_of_mem _ (lkF_mem h')
theorem lkF_none {c : Cl} : ∀ {kvs : List (Cl × Fm)}, c ∉ kvs.map (·.1) → lkF c kvs = none
  | [], _ => rfl
  | q :: l, hq => by
    rw [List.map_cons, List.mem_cons] at hq
    show (if q.1 = c then some q.2 else lkF c l) = none
    rw [if_neg fun z => hq (.inl z.symm)]
    exact lkF_none fun z => hq (.inr z)
theorem fin_len : ∀ (a b : List Cl), a.Nodup → (∀ x ∈ a, x ∈ b) → a.length ≤ b.length
  | [], b, _, _ => Nat.zero_le _
  | x :: a, b, h, hs => by
    rw [List.nodup_cons] at h
    have h1 : x ∈ b := hs x List.mem_cons_self
    have h2 := fin_len a (b.erase x) h.2 (fun y hy => (List.mem_erase_of_ne (fun e => h.1 (by rw [← e]; exact hy))).mpr (hs y (List.mem_cons_of_mem _ hy)))
    rw [List.length_erase_of_mem h1] at h2
    have h3 := List.length_pos_of_mem h1
    rw [List.length_cons]
    omega
theorem tab_len {kvs : List (Cl × Fm)} (nd : (kvs.map (·.1)).Nodup) : kvs.length ≤ 8 := by
  have := fin_len _ cls nd fun c _ => cls_all c
  rw [List.length_map] at this
  exact this
theorem DOk.len {k : Nat} {d : Deed} (h : DOk k d) : d.parts.length ≤ 8 := tab_len h.nd
instance : DecidableEq Fm := fun f g => decidable_of_iff (f.num = g.num ∧ ∀ c, f.co c = g.co c) ⟨fun h => Fm.ext' h.1 h.2, fun h => by rw [h]; exact ⟨rfl, fun _ => rfl⟩⟩
instance : DecidableEq Deed := fun a b => decidable_of_iff (a.name = b.name ∧ a.ticks = b.ticks ∧ a.parts = b.parts) ⟨fun ⟨h1, h2, h3⟩ => by cases a; cases b; cases h1; cases h2; cases h3; rfl, fun h => by rw [h]; exact ⟨rfl, rfl, rfl⟩⟩
/-! leaves -/
theorem bd_eP {i j : Nat} {p : Cl × Fm} {s s1 s2 : Sg} (h1 : bnd (.name i) (.str (cl p.1)) s = some s1) (h2 : bnd (.name j) (eF p.2) s1 = some s2) : bnd (.tup [.name i, .name j]) (eP p) s = some s2 := bd_tup rfl (bd_cons h1 (bd_cons h2 bd_nil))
theorem bd_encP {i j : Nat} {p : Str × Int} {s s1 s2 : Sg} (h1 : bnd (.name i) (.str p.1) s = some s1) (h2 : bnd (.name j) (.int p.2) s1 = some s2) : bnd (.tup [.name i, .name j]) (encP p) s = some s2 := bd_tup rfl (bd_cons h1 (bd_cons h2 bd_nil))
theorem l_eD0 (d : Deed) : pIx.sem [eD d, .int 0] = some (.str d.name) := l_ix0 _ _
theorem l_eD1 (d : Deed) : pIx.sem [eD d, .int 1] = some (.int d.ticks) := l_ix1 _ _ _
theorem l_eD2 (d : Deed) : pIx.sem [eD d, .int 2] = some (.tup (d.parts.map eP)) := l_ix2 _ _ _ _
theorem l_eRs (r : List Deed) : iSeq.sem [eR r] = some (r.map eD) := rfl
theorem l_eRcat {a b : List Deed} (h : a.length + b.length ≤ 16777216) : pAdd.sem [eR a, eR b] = some (eR (a ++ b)) := by
  show (if (a.map eD).length + (b.map eD).length ≤ sizeLine then some (D.tup (a.map eD ++ b.map eD)) else none) = _
  rw [sizeLine_eq, List.length_map, List.length_map, if_pos h, ← List.map_append]
  rfl
theorem l_eRlen (r : List Deed) : pLen.sem [eR r] = some (.int r.length) := by
  show some (D.int ((r.map eD).length : Nat)) = _
  rw [List.length_map]
theorem l_eSseq (w : Cl → Int) : iSeq.sem [eS w] = some ((terms w).map encP) := rfl
theorem mergeT_new : ∀ (ts l : Terms), ND (l ++ ts) → mergeT l ts = l ++ ts
  | [], l, _ => by rw [List.append_nil]; rfl
  | p :: r, l, h => by
    have h1 : ∀ q ∈ l, q.1 ≠ p.1 := by
      have h' : ((l ++ p :: r).map (·.1)).Nodup := h
      rw [List.map_append, List.nodup_append] at h'
      intro q hq e
      exact h'.2.2 q.1 (List.mem_map_of_mem hq) p.1 (by simp) e
    have h2 : putT p.1 p.2 l = l ++ [p] := by
      unfold putT
      rw [if_neg]
      intro z
      obtain ⟨q, hq, e⟩ := (any_key p.1 l).mp z
      exact h1 q hq e
    show mergeT (putT p.1 p.2 l) r = _
    rw [h2, mergeT_new r (l ++ [p]) (by rw [List.append_assoc]; exact h), List.append_assoc]
    rfl
theorem l_dictS (w : Cl → Int) : pDict.sem [eS w] = some (encK (terms w)) := by
  show dictS (encT (terms w)) = _
  rw [dict_enc, mergeT_new _ _ (by rw [List.nil_append]; exact (terms_nrm w).nd), List.nil_append]
/-- what stands in the part of a cell -/
def Deed.at (d : Deed) (c : Cl) : Option Fm := lkF c d.parts
end T
end
section
set_option maxRecDepth 100000
namespace T
open PySem G
/-! ### what these data are told by -/
def dCl : Dat Cl := Dat.str cl cl_ok fun _ _ h => cl_inj h
def cterms (w : Cl → Int) : List (Cl × Int) := cls.filterMap fun c => if w c = 0 then none else some (c, w c)
theorem terms_c (w : Cl → Int) : terms w = (cterms w).map fun p => (cl p.1, p.2) := by
  unfold terms cterms
  generalize cls = l
  induction l with
  | nil => rfl
  | cons c r ih =>
    rw [List.filterMap_cons, List.filterMap_cons]
    unfold tmF
    by_cases h : w c = 0
    · rw [if_pos h, if_pos h]; exact ih
    · rw [if_neg h, if_neg h, List.map_cons, ← ih]; rfl
theorem cterms_inj {u w : Cl → Int} (h : cterms u = cterms w) : u = w := terms_inj (by rw [terms_c, terms_c, h])
def dW : Dat (Cl → Int) := (Dat.tup (Dat.two dCl Dat.int)).via cterms fun _ _ h => cterms_inj h
theorem eS_dW (w : Cl → Int) : eS w = dW.enc w := by
  show D.tup ((terms w).map encP) = D.tup ((cterms w).map (Dat.two dCl Dat.int).enc)
  rw [terms_c, List.map_map]
  rfl
def dF : Dat Fm := (Dat.two Dat.int dW).via (fun f => (f.num, f.co)) fun f g h => by
  have h1 := congrArg Prod.fst h
  have h2 := congrArg Prod.snd h
  exact Fm.ext' h1 fun c => congrFun h2 c
theorem eF_dF (f : Fm) : eF f = dF.enc f := by
  show D.tup [.int f.num, encT (terms f.co)] = D.tup [.int f.num, dW.enc f.co]
  rw [show encT (terms f.co) = eS f.co from rfl, eS_dW]
theorem ndec {α : Type} {x y : α} [i : Decidable (x = y)] [j : Decidable (x = y)] : @decide _ i = @decide _ j := by congr
theorem q_eqF (f g : Fm) : pEq.sem [eF f, eF g] = some (.bl (decide (f = g))) := by rw [eF_dF, eF_dF]; exact dF.l_eq (by decide) f g
theorem f_neF (f g : Fm) : pNe.sem [eF f, eF g] = some (.bl (!decide (f = g))) := by rw [eF_dF, eF_dF]; exact dF.l_ne (by decide) f g
instance : DecidableEq (Cl → Int) := fun u w => decidable_of_iff (∀ c, u c = w c) ⟨fun h => funext h, fun h => by rw [h]; exact fun _ => rfl⟩
instance : DecidableEq (Cl → Fm) := fun u w => decidable_of_iff (∀ c, u c = w c) ⟨fun h => funext h, fun h => by rw [h]; exact fun _ => rfl⟩
theorem q_eqS (u w : Cl → Int) : pEq.sem [eS u, eS w] = some (.bl (decide (u = w))) := by rw [eS_dW, eS_dW]; exact dW.l_eq (by decide) u w
theorem f_neS (u w : Cl → Int) : pNe.sem [eS u, eS w] = some (.bl (!decide (u = w))) := by rw [eS_dW, eS_dW]; exact dW.l_ne (by decide) u w
def dP : Dat (Cl × Fm) := Dat.two dCl dF
theorem eP_dP (p : Cl × Fm) : eP p = dP.enc p := by
  show D.tup [_, eF p.2] = D.tup [_, dF.enc p.2]
  rw [eF_dF]
  rfl
theorem eP_map : ∀ l : List (Cl × Fm), l.map eP = l.map dP.enc
  | [] => rfl
  | p :: r => by rw [List.map_cons, List.map_cons, eP_dP, eP_map r]
/-- names: texts of which all signs are such -/
structure Nm where
  s : Str
  ok : PyData.strOk s = true
def dNm : Dat Nm := Dat.str Nm.s Nm.ok fun x y h => by cases x; cases y; cases h; rfl
/-! maps, cell by cell -/
def mapL (m : Cl → Fm) : List (Cl × Fm) := (cls.filter fun c => !decide (m c = Fm.just c)).map fun c => (c, m c)
def eMp (m : Cl → Fm) : D := .tup ((mapL m).map eP)
theorem lkF_mapf (m : Cl → Fm) (c : Cl) : ∀ l : List Cl, lkF c (l.map fun c => (c, m c)) = if c ∈ l then some (m c) else none
  | [] => by simp [lkF]
  | d :: r => by
    rw [List.map_cons]
    show (if d = c then some (m d) else lkF c (r.map fun c => (c, m c))) = _
    rw [lkF_mapf m c r]
    by_cases e : d = c
    · subst e; rw [if_pos rfl, if_pos List.mem_cons_self]
    · rw [if_neg e]
      by_cases h : c ∈ r
      · rw [if_pos h, if_pos (List.mem_cons_of_mem _ h)]
      · rw [if_neg h, if_neg]
        intro z
        rcases List.mem_cons.mp z with z | z
        · exact e z.symm
        · exact h z
theorem im_mapL (m : Cl → Fm) (c : Cl) : imF (mapL m) c = m c := by
  unfold imF mapL
  rw [lkF_mapf]
  by_cases h : m c = Fm.just c
  · rw [if_neg]
    · rw [h]; rfl
    · rw [List.mem_filter]
      rintro ⟨_, z⟩
      simp [h] at z
  · rw [if_pos]
    · rfl
    · rw [List.mem_filter]
      exact ⟨cls_all c, by simp [h]⟩
theorem mapL_inj {m n : Cl → Fm} (h : mapL m = mapL n) : m = n := by
  funext c
  rw [← im_mapL m, ← im_mapL n, h]
theorem mapL_nd (m : Cl → Fm) : ((mapL m).map (·.1)).Nodup := by
  unfold mapL
  rw [List.map_map]
  show List.Nodup (List.map (fun c => c) _)
  rw [List.map_id']
  exact cls_nd.filter _
theorem mapL_len (m : Cl → Fm) : (mapL m).length ≤ 8 := tab_len (mapL_nd m)
def dMp : Dat (Cl → Fm) := (Dat.tup dP).via mapL fun _ _ h => mapL_inj h
theorem eMp_d (m : Cl → Fm) : eMp m = dMp.enc m := by
  show D.tup ((mapL m).map eP) = D.tup ((mapL m).map dP.enc)
  rw [eP_map]
theorem q_eqM (m n : Cl → Fm) : pEq.sem [eMp m, eMp n] = some (.bl (decide (m = n))) := by rw [eMp_d, eMp_d]; exact dMp.l_eq (by decide) m n
theorem f_neM (m n : Cl → Fm) : pNe.sem [eMp m, eMp n] = some (.bl (!decide (m = n))) := by rw [eMp_d, eMp_d]; exact dMp.l_ne (by decide) m n
theorem eMp_just : eMp Fm.just = .tup [] := by
  unfold eMp mapL
  have : (cls.filter fun c => !decide (Fm.just c = Fm.just c)) = [] := List.filter_eq_nil_iff.mpr fun c _ => by simp
  rw [this]
  rfl
/-! deeds are told apart -/
structure NDeed where
  name : Nm
  ticks : Int
  parts : List (Cl × Fm)
theorem deed_q (a b : Deed) (ha : PyData.strOk a.name = true) (hb : PyData.strOk b.name = true) : dataEq (eD a) (eD b) = some (decide (a = b)) := by
  have e : ∀ (d : Deed) (h : PyData.strOk d.name = true), eD d = (Dat.three dNm Dat.int (Dat.tup dP)).enc (⟨d.name, h⟩, d.ticks, d.parts) := fun d h => by
    show D.tup [_, _, .tup (d.parts.map eP)] = D.tup [_, _, .tup (d.parts.map dP.enc)]
    rw [eP_map]
    rfl
  have i : DecidableEq Nm := fun x y => decidable_of_iff (x.s = y.s) ⟨fun h => by cases x; cases y; cases h; rfl, fun h => by rw [h]⟩
  rw [e a ha, e b hb, Dat.dataEq _ (by decide)]
  congr 1
  rw [decide_eq_decide]
  constructor
  · intro h
    have h1 := congrArg (fun p => p.1.s) h
    have h2 := congrArg (fun p => p.2.1) h
    have h3 := congrArg (fun p => p.2.2) h
    cases a; cases b
    cases h1; cases h2; cases h3
    rfl
  · intro h
    subst h
    rfl
theorem q_eqD (a b : Deed) (ha : PyData.strOk a.name = true) (hb : PyData.strOk b.name = true) : pEq.sem [eD a, eD b] = some (.bl (decide (a = b))) := by
  show (dataEq _ _).map _ = _
  rw [deed_q a b ha hb]
  rfl
theorem f_neD (a b : Deed) (ha : PyData.strOk a.name = true) (hb : PyData.strOk b.name = true) : pNe.sem [eD a, eD b] = some (.bl (!decide (a = b))) := by
  show (dataEq _ _).map _ = _
  rw [deed_q a b ha hb]
  rfl
/-! tables of forms -/
def putM (c : Cl) (f : Fm) (kvs : List (Cl × Fm)) : List (Cl × Fm) := if (kvs.any fun p => decide (p.1 = c)) = true then kvs.map (fun p => if p.1 = c then (p.1, f) else p) else kvs ++ [(c, f)]
theorem putM_enc (c : Cl) (f : Fm) (kvs : List (Cl × Fm)) : G.putK (Sum.inr (cl c) : Ky) (eF f) ((tabF kvs).map kvF) = (tabF (putM c f kvs)).map kvF := by
  unfold G.putK putM tabF
  rw [List.map_map]
  have h1 : ((kvs.map (kvF ∘ fun p => (cl p.1, p.2.raw))).any fun p => decide (p.1 = (Sum.inr (cl c) : Ky))) = kvs.any fun p => decide (p.1 = c) := by
    rw [List.any_map]
    congr 1
    funext p
    show decide ((Sum.inr (cl p.1) : Ky) = Sum.inr (cl c)) = decide (p.1 = c)
    by_cases h : p.1 = c
    · rw [h]; simp
    · have : ¬ (Sum.inr (cl p.1) : Ky) = Sum.inr (cl c) := fun z => h (cl_inj (Sum.inr.inj z))
      simp [h, this]
  rw [h1]
  by_cases h : (kvs.any fun p => decide (p.1 = c)) = true
  · rw [if_pos h, if_pos h, List.map_map, List.map_map, List.map_map]
    apply List.map_congr_left
    intro p _
    show (if (Sum.inr (cl p.1) : Ky) = Sum.inr (cl c) then ((Sum.inr (cl p.1) : Ky), eF f) else kvF (cl p.1, p.2.raw)) = kvF (cl (if p.1 = c then (p.1, f) else p).1, (if p.1 = c then (p.1, f) else p).2.raw)
    by_cases e : p.1 = c
    · rw [if_pos (by rw [e]), if_pos e]; rfl
    · rw [if_neg (fun z => e (cl_inj (Sum.inr.inj z))), if_neg e]
  · rw [if_neg h, if_neg h, List.map_append, List.map_append, List.map_map]
    rfl
theorem lkF_put (c : Cl) (f : Fm) (kvs : List (Cl × Fm)) (d : Cl) : lkF d (putM c f kvs) = if d = c then some f else lkF d kvs := by
  have ap : ∀ l : List (Cl × Fm), lkF d (l ++ [(c, f)]) = match lkF d l with | some g => some g | none => if c = d then some f else none := by
    intro l
    induction l with
    | nil => rfl
    | cons p r ih =>
      show (if p.1 = d then some p.2 else lkF d (r ++ [(c, f)])) = match (if p.1 = d then some p.2 else lkF d r) with | some g => some g | none => _
      by_cases e : p.1 = d
      · rw [if_pos e, if_pos e]
      · rw [if_neg e, if_neg e, ih]
  have mp : ∀ l : List (Cl × Fm), lkF d (l.map fun p => if p.1 = c then (p.1, f) else p) = if d = c then (lkF d l).map (fun _ => f) else lkF d l := by
    intro l
    induction l with
    | nil => by_cases e : d = c <;> simp [lkF, e]
    | cons p r ih =>
      rw [List.map_cons]
      show (if (if p.1 = c then (p.1, f) else p).1 = d then some (if p.1 = c then (p.1, f) else p).2 else lkF d (r.map _)) = if d = c then Option.map _ (if p.1 = d then some p.2 else lkF d r) else (if p.1 = d then some p.2 else lkF d r)
      rw [ih]
      by_cases e1 : p.1 = c
      · by_cases e2 : d = c
        · subst e2; simp [e1]
        · have : ¬ p.1 = d := fun z => e2 (z.symm.trans e1)
          have e3 : ¬ c = d := fun z => e2 z.symm
          simp [e1, e2, e3]
      · by_cases e2 : d = c
        · subst e2; simp [e1]
        · simp [e1, e2]
  unfold putM
  by_cases h : (kvs.any fun p => decide (p.1 = c)) = true
  · rw [if_pos h, mp]
    by_cases e : d = c
    · rw [if_pos e, if_pos e]
      obtain ⟨p, hp, q⟩ := List.any_eq_true.mp h
      have q := of_decide_eq_true q
      have : ∀ l : List (Cl × Fm), p ∈ l → (lkF d l).isSome = true := by
        intro l
        induction l with
        | nil => intro h; cases h
        | cons x r ih =>
          intro hx
          show (if x.1 = d then some x.2 else lkF d r).isSome = true
          by_cases e2 : x.1 = d
          · rw [if_pos e2]; rfl
          · rw [if_neg e2]
            rcases List.mem_cons.mp hx with z | hx
            · subst z; exact absurd (q.trans e.symm) e2
            · exact ih hx
      have h2 := this kvs hp
      cases e3 : lkF d kvs with
      | none => rw [e3] at h2; cases h2
      | some g => rfl
    · rw [if_neg e, if_neg e]
  · rw [if_neg h, ap]
    by_cases e : d = c
    · subst e
      rw [if_pos rfl, if_pos rfl, lkF_none]
      intro m
      obtain ⟨p, hp, q⟩ := List.mem_map.mp m
      exact h (List.any_eq_true.mpr ⟨p, hp, decide_eq_true q⟩)
    · rw [if_neg e]
      cases lkF d kvs with
      | some g => rfl
      | none => rw [if_neg fun z => e z.symm]
theorem putM_keys (c : Cl) (f : Fm) (kvs : List (Cl × Fm)) (d : Cl) : d ∈ (putM c f kvs).map (·.1) ↔ d = c ∨ d ∈ kvs.map (·.1) := by
  unfold putM
  by_cases h : (kvs.any fun p => decide (p.1 = c)) = true
  · rw [if_pos h, List.map_map]
    have e : (kvs.map ((·.1) ∘ fun p => if p.1 = c then (p.1, f) else p)) = kvs.map (·.1) := List.map_congr_left fun p _ => by
      show (if p.1 = c then (p.1, f) else p).1 = p.1
      split <;> rfl
    rw [e]
    constructor
    · exact .inr
    · rintro (z | z)
      · obtain ⟨p, hp, q⟩ := List.any_eq_true.mp h
        rw [z, ← of_decide_eq_true q]
        exact List.mem_map_of_mem hp
      · exact z
  · rw [if_neg h, List.map_append, List.mem_append]
    constructor
    · rintro (z | z)
      · exact .inr z
      · exact .inl (by simpa using z)
    · rintro (z | z)
      · exact .inr (by simpa using z)
      · exact .inl z
theorem putM_nd {c : Cl} {f : Fm} {kvs : List (Cl × Fm)} (h : (kvs.map (·.1)).Nodup) : ((putM c f kvs).map (·.1)).Nodup := by
  unfold putM
  by_cases a : (kvs.any fun p => decide (p.1 = c)) = true
  · rw [if_pos a, List.map_map]
    have e : (kvs.map ((·.1) ∘ fun p => if p.1 = c then (p.1, f) else p)) = kvs.map (·.1) := List.map_congr_left fun p _ => by
      show (if p.1 = c then (p.1, f) else p).1 = p.1
      split <;> rfl
    rw [e]
    exact h
  · rw [if_neg a, List.map_append, List.nodup_append]
    refine ⟨h, by simp, ?_⟩
    intro x hx y hy e
    simp at hy
    obtain ⟨p, hp, q⟩ := List.mem_map.mp hx
    exact a (List.any_eq_true.mpr ⟨p, hp, decide_eq_true (by rw [q, e, hy])⟩)
theorem set_eM (c : Cl) (f : Fm) (kvs : List (Cl × Fm)) (h : kvs.length < 16777216) : setAt (eM kvs) (.str (cl c)) (eF f) = some (eM (putM c f kvs)) := by
  show (if ((tabF kvs).map kvF).length < sizeLine then some (D.dk (G.putK (Sum.inr (cl c) : Ky) (eF f) ((tabF kvs).map kvF))) else none) = _
  rw [sizeLine_eq, List.length_map, if_pos (by unfold tabF; rw [List.length_map]; exact h), putM_enc]
  rfl
theorem imF_put (c : Cl) (f : Fm) (kvs : List (Cl × Fm)) (d : Cl) : imF (putM c f kvs) d = if d = c then f else imF kvs d := by
  unfold imF
  rw [lkF_put]
  by_cases h : d = c
  · rw [if_pos h, if_pos h]; rfl
  · rw [if_neg h, if_neg h]
theorem l_dictM (kvs : List (Cl × Fm)) : pDict.sem [eM kvs] = some (eM kvs) := rfl
/-- cells that are sorted -/
theorem sort_cells {l : List Cl} (nd : l.Nodup) : sortStr (l.map cl) = (cls.filter fun c => decide (c ∈ l)).map cl := by
  have h0 : ((cls.filter fun c => decide (c ∈ l)).map cl).Perm (l.map cl) := by
    apply List.Perm.map
    rw [List.perm_ext_iff_of_nodup (cls_nd.filter _) nd]
    intro c
    rw [List.mem_filter]
    exact ⟨fun h => of_decide_eq_true h.2, fun h => ⟨cls_all c, decide_eq_true h⟩⟩
  have h1 : ((cls.filter fun c => decide (c ∈ l)).map cl).Pairwise fun a b => strLe a b = true := by
    rw [List.pairwise_map]
    exact (cls_pw.imp fun h => h.1).filter _
  have h2 : (sortStr (l.map cl)).Pairwise fun a b => strLe a b = true := List.pairwise_mergeSort strLe_trans strLe_total _
  exact (List.Perm.eq_of_pairwise (fun a b _ _ x y => strLe_anti a b x y) h1 h2 (h0.trans (List.mergeSort_perm _ _).symm)).symm
theorem keys_eM' (kvs : List (Cl × Fm)) : keysS ((tabF kvs).map kvF) = some ((kvs.map (·.1)).map cl) := by
  unfold keysS tabF
  rw [List.map_map, List.map_map]
  induction kvs with
  | nil => rfl
  | cons p r ih =>
    unfold strsOf at ih ⊢
    rw [List.map_cons, List.mapM_cons, ih]
    rfl
theorem sort_eM {kvs : List (Cl × Fm)} (nd : (kvs.map (·.1)).Nodup) : pSorted.sem [eM kvs] = some (.lst ((cls.filter fun c => decide (c ∈ kvs.map (·.1))).map fun c => .str (cl c))) := by
  have hl := tab_len nd
  show (match keysS ((tabF kvs).map kvF) with
      | some ss => if ss.length < 64 then some (D.lst ((sortStr ss).map .str)) else none
      | none => match keysI ((tabF kvs).map kvF) with
        | some ns => if ns.length < 64 then some (D.lst ((sortInt ns).map .int)) else none
        | none => none) = _
  rw [keys_eM']
  dsimp only
  rw [if_pos (by rw [List.length_map, List.length_map]; omega), sort_cells nd, List.map_map]
  rfl
end T
end
section
set_option maxRecDepth 100000
namespace T
open PySem G
/-! ### slices, and things that are the same -/
theorem l_from {xs : List D} {u : Int} (h : 0 ≤ u) : (pSl true false).sem [.tup xs, .int u] = some (.tup (xs.drop u.toNat)) := by
  show some (D.tup (cutD xs (some u) none)) = _
  unfold cutD
  have e : HT.sIx xs.length 0 (some u) = min u.toNat xs.length := by
    show (if u < 0 then (u + (xs.length : Int)).toNat else min u.toNat xs.length) = _
    rw [if_neg (by omega)]
  have e2 : HT.sIx xs.length xs.length none = xs.length := rfl
  rw [e, e2, List.take_of_length_le (by rw [List.length_drop]; exact Nat.le_refl _)]
  by_cases z : u.toNat ≤ xs.length
  · rw [Nat.min_eq_left z]
  · rw [Nat.min_eq_right (by omega), List.drop_length, List.drop_of_length_le (by omega)]
theorem l_upto {xs : List D} {u : Int} (h : 0 ≤ u) : (pSl false true).sem [.tup xs, .int u] = some (.tup (xs.take u.toNat)) := by
  show some (D.tup (cutD xs none (some u))) = _
  unfold cutD
  have e : HT.sIx xs.length xs.length (some u) = min u.toNat xs.length := by
    show (if u < 0 then (u + (xs.length : Int)).toNat else min u.toNat xs.length) = _
    rw [if_neg (by omega)]
  have e2 : HT.sIx xs.length 0 none = 0 := rfl
  rw [e, e2, List.drop_zero, Nat.sub_zero]
  by_cases z : u.toNat ≤ xs.length
  · rw [Nat.min_eq_left z]
  · rw [Nat.min_eq_right (by omega), List.take_length, List.take_of_length_le (by omega)]
theorem l_fromR {r : List Deed} {u : Int} (h : 0 ≤ u) : (pSl true false).sem [eR r, .int u] = some (eR (r.drop u.toNat)) := by
  unfold eR
  rw [l_from h, ← List.map_drop]
theorem l_two (d : Deed) : (pSl false true).sem [eD d, .int 2] = some (.tup [.str d.name, .int d.ticks]) := l_upto (by decide)
theorem l_strUp {z : Str} (h : z.length ≤ 16) : (pSl false true).sem [.str z, .int 2] = some (.str (L2.cutS z none (some 2))) := by
  show (if z.length ≤ sizeLine then some (D.str (L2.cutS z none (some 2))) else none) = _
  rw [sizeLine_eq, if_pos (by omega)]
theorem l_z {z : Str} (h : z.length ≤ 16) : pAdd.sem [.str "z", .str (L2.cutS z none (some 2))] = some (.str ("z" ++ L2.cutS z none (some 2))) := by
  have hl : (L2.cutS z none (some 2)).length ≤ z.length := L2.cutS_length z none (some 2)
  show (if ("z" : Str).length + (L2.cutS z none (some 2)).length ≤ sizeLine then _ else none) = _
  rw [sizeLine_eq, if_pos (by show 1 + _ ≤ _; omega)]
theorem q_neM (m : Cl → Fm) : pNe.sem [eMp m, eMp m] = some (.bl false) := by rw [f_neM]; simp
theorem q_neS (w : Cl → Int) : pNe.sem [eS w, eS w] = some (.bl false) := by rw [f_neS]; simp
theorem q_neD {d : Deed} (h : PyData.strOk d.name = true) : pNe.sem [eD d, eD d] = some (.bl false) := by rw [f_neD d d h h]; simp
theorem q_neB (b : Bool) : pNe.sem [.bl b, .bl b] = some (.bl false) := by
  have h := Dat.bl.l_ne (Nat.zero_le _) b b
  simp only [decide_true, Bool.not_true] at h
  exact h
theorem q_neC (l : List Cl) : pNe.sem [.tup (l.map fun c => .str (cl c)), .tup (l.map fun c => .str (cl c))] = some (.bl false) := by
  have h := (Dat.tup dCl).l_ne (by decide) l l
  simp only [decide_true, Bool.not_true] at h
  exact h
theorem q_neI (i : Int) : pNe.sem [.int i, .int i] = some (.bl false) := ne_ints i
theorem q_neAll : pNe.sem [.tup [.str "all", .int 3], .tup [.str "all", .int 3]] = some (.bl false) := by
  have h : neS (.tup [.str "all", .int 3]) (.tup [.str "all", .int 3]) = some (.bl false) := ne_same (p := .tuple [.str "all", .int 3]) rfl (by decide +kernel)
  exact h
theorem l_toR {r : List Deed} {u : Int} (h : 0 ≤ u) : (pSl false true).sem [eR r, .int u] = some (eR (r.take u.toNat)) := by
  unfold eR
  rw [l_upto h, ← List.map_take]
theorem l_init (xs : List D) : (pSl false true).sem [.tup xs, .int (-1)] = some (.tup xs.dropLast) := by
  show some (D.tup (cutD xs none (some (-1)))) = _
  unfold cutD
  have e : HT.sIx xs.length xs.length (some (-1)) = xs.length - 1 := by
    show (if (-1 : Int) < 0 then ((-1 : Int) + (xs.length : Int)).toNat else min (-1 : Int).toNat xs.length) = _
    rw [if_pos (by decide)]
    omega
  have e2 : HT.sIx xs.length 0 none = 0 := rfl
  rw [e, e2, List.drop_zero, Nat.sub_zero, List.dropLast_eq_take]
theorem l_tail (xs : List D) : (pSl true false).sem [.tup xs, .int 1] = some (.tup xs.tail) := by
  rw [l_from (by decide)]
  show some (D.tup (xs.drop 1)) = _
  rw [List.drop_one]
theorem l_eqs (i : Int) : pEq.sem [.int i, .int i] = some (.bl true) := by rw [l_eqi, decide_eq_true rfl]
theorem l_allT {α : Type} (xs : List α) : pAll.sem [.lst (xs.map fun _ => D.bl true)] = some (.bl true) := by
  have e : (xs.map fun _ => D.bl true) = (xs.map fun _ => true).map D.bl := by rw [List.map_map]; rfl
  rw [e]
  show (blsOf ((xs.map fun _ => true).map D.bl)).map (fun bs => D.bl (bs.all id)) = _
  rw [bls_enc]
  show some (D.bl ((xs.map fun _ => true).all id)) = _
  congr 2
  rw [List.all_map]
  exact List.all_eq_true.mpr fun _ _ => rfl
theorem l_anyF {α : Type} (xs : List α) : pAny.sem [.lst (xs.map fun _ => D.bl false)] = some (.bl false) := by
  have e : (xs.map fun _ => D.bl false) = (xs.map fun _ => false).map D.bl := by rw [List.map_map]; rfl
  rw [e]
  show (blsOf ((xs.map fun _ => false).map D.bl)).map (fun bs => D.bl (bs.any id)) = _
  rw [bls_enc]
  show some (D.bl ((xs.map fun _ => false).any id)) = _
  congr 2
  rw [List.any_map]
  exact List.any_eq_false.mpr fun _ _ => by simp
end T
end
section
set_option maxRecDepth 100000
set_option maxHeartbeats 0
namespace T
open PySem G
/-! ### cells of forms, of deeds; sets of cells -/
def clD (l : List Cl) : List D := l.map fun c => .str (cl c)
def suppC (w : Cl → Int) : List Cl := cls.filter fun c => !decide (w c = 0)
theorem supp_mem {w : Cl → Int} {c : Cl} : c ∈ suppC w ↔ w c ≠ 0 := by
  unfold suppC
  rw [List.mem_filter]
  simp [cls_all c]
theorem terms_supp (w : Cl → Int) : ((terms w).map fun p => D.str p.1) = clD (suppC w) := by
  unfold terms suppC clD
  generalize cls = l
  induction l with
  | nil => rfl
  | cons c r ih =>
    rw [List.filterMap_cons, List.filter_cons]
    unfold tmF
    by_cases z : w c = 0
    · simp only [z, if_true, decide_true, Bool.not_true, Bool.false_eq_true, if_false]
      exact ih
    · simp only [z, if_false, decide_false, Bool.not_false, if_true, List.map_cons]
      rw [← ih]
      rfl
theorem supp_len (w : Cl → Int) : (suppC w).length ≤ 8 := List.length_filter_le _ _
theorem strs_cl : ∀ l : List Cl, strsOf (clD l) = some (l.map cl)
  | [] => rfl
  | c :: r => by
    have ih := strs_cl r
    unfold strsOf clD at ih ⊢
    rw [List.map_cons, List.mapM_cons, ih]
    rfl
theorem sortStr_perm {a b : List Str} (h : a.Perm b) : sortStr a = sortStr b := by
  have h1 : (sortStr a).Pairwise fun a b => strLe a b = true := List.pairwise_mergeSort strLe_trans strLe_total _
  have h2 : (sortStr b).Pairwise fun a b => strLe a b = true := List.pairwise_mergeSort strLe_trans strLe_total _
  exact List.Perm.eq_of_pairwise (fun a b _ _ x y => strLe_anti a b x y) h1 h2 ((List.mergeSort_perm _ _).trans (h.trans (List.mergeSort_perm _ _).symm))
/-- the cells of a list, rising, each once -/
def upC (l : List Cl) : List Cl := cls.filter fun c => decide (c ∈ l)
theorem upC_mem {l : List Cl} {c : Cl} : c ∈ upC l ↔ c ∈ l := by
  unfold upC
  rw [List.mem_filter, decide_eq_true_eq]
  exact ⟨fun h => h.2, fun h => ⟨cls_all c, h⟩⟩
theorem upC_nd (l : List Cl) : (upC l).Nodup := cls_nd.filter _
theorem upC_len (l : List Cl) : (upC l).length ≤ 8 := List.length_filter_le _ _
theorem upC_congr {l m : List Cl} (h : ∀ c, c ∈ l ↔ c ∈ m) : upC l = upC m := by
  unfold upC
  apply List.filter_congr
  intro c _
  rw [Bool.eq_iff_iff, decide_eq_true_eq, decide_eq_true_eq]
  exact h c
theorem dd_perm (l : List Cl) : (ddS (l.map cl)).Perm ((upC l).map cl) := by
  rw [List.perm_ext_iff_of_nodup (ddS_nd _)]
  · intro y
    rw [ddS_mem, List.mem_map, List.mem_map]
    exact ⟨fun ⟨c, h, e⟩ => ⟨c, upC_mem.mpr h, e⟩, fun ⟨c, h, e⟩ => ⟨c, upC_mem.mp h, e⟩⟩
  · have h := upC_nd l
    rw [List.Nodup, List.pairwise_map]
    exact h.imp fun h e => h (cl_inj e)
theorem sortSet_cl (l : List Cl) (h : l.length < 4000) : pSortSet.sem [.lst (clD l)] = some (.lst (clD (upC l))) := by
  show (match strsOf (clD l) with
    | some ss => if ss.length < 4000 ∧ (ddS ss).length < 64 then some (D.lst ((sortStr (ddS ss)).map .str)) else none
    | none => none) = _
  rw [strs_cl]
  dsimp only
  have hp := dd_perm l
  have hl := upC_len l
  rw [if_pos ⟨by rw [List.length_map]; exact h, by rw [hp.length_eq, List.length_map]; omega⟩, sortStr_perm hp, sort_cells (upC_nd l)]
  have e : (cls.filter fun c => decide (c ∈ upC l)) = upC l := by
    show _ = cls.filter fun c => decide (c ∈ l)
    apply List.filter_congr
    intro c _
    rw [Bool.eq_iff_iff, decide_eq_true_eq, decide_eq_true_eq, upC_mem]
  rw [e, List.map_map]
  rfl
theorem cl_inT (c : Cl) (l : List Cl) : pIn.sem [.str (cl c), .tup (clD l)] = some (.bl (decide (c ∈ l))) := dCl.l_in_tup (by decide) c l
theorem cl_inL (c : Cl) (l : List Cl) : pIn.sem [.str (cl c), .lst (clD l)] = some (.bl (decide (c ∈ l))) := dCl.l_in_lst (by decide) c l
theorem cl_ninT (c : Cl) (l : List Cl) : pNin.sem [.str (cl c), .tup (clD l)] = some (.bl (!decide (c ∈ l))) := dCl.l_nin_tup (by decide) c l
theorem cl_ninL (c : Cl) (l : List Cl) : pNin.sem [.str (cl c), .lst (clD l)] = some (.bl (!decide (c ∈ l))) := dCl.l_nin_lst (by decide) c l
theorem l_anyX {α : Type} (f : α → Bool) (xs : List α) : pAny.sem [.lst (xs.map fun x => D.bl (f x))] = some (.bl (xs.any f)) := by
  have e : (xs.map fun x => D.bl (f x)) = (xs.map f).map D.bl := by rw [List.map_map]; rfl
  rw [e]
  show (blsOf ((xs.map f).map D.bl)).map (fun bs => D.bl (bs.any id)) = _
  rw [bls_enc]
  show some (D.bl ((xs.map f).any id)) = _
  rw [List.any_map]
  rfl
theorem l_allX {α : Type} (f : α → Bool) (xs : List α) : pAll.sem [.lst (xs.map fun x => D.bl (f x))] = some (.bl (xs.all f)) := by
  have e : (xs.map fun x => D.bl (f x)) = (xs.map f).map D.bl := by rw [List.map_map]; rfl
  rw [e]
  show (blsOf ((xs.map f).map D.bl)).map (fun bs => D.bl (bs.all id)) = _
  rw [bls_enc]
  show some (D.bl ((xs.map f).all id)) = _
  rw [List.all_map]
  rfl
theorem l_tupC (l : List Cl) : pTuple.sem [.lst (clD l)] = some (.tup (clD l)) := rfl
theorem l_lstC (l : List Cl) : pList.sem [.tup (clD l)] = some (.lst (clD l)) := rfl
theorem l_extC (a b : List Cl) (h : a.length + b.length ≤ 16777216) : extTo (.lst (clD a)) (.lst (clD b)) = some (.lst (clD (a ++ b))) := by
  show (if (clD a).length + (clD b).length ≤ sizeLine then some (D.lst (clD a ++ clD b)) else none) = _
  unfold clD
  rw [sizeLine_eq, List.length_map, List.length_map, if_pos h, List.map_append]
/-! what deeds read and write -/
def wrC (d : Deed) : List Cl := d.parts.map (·.1)
def rdL (ps : List (Cl × Fm)) : List Cl := ps.flatMap fun p => suppC p.2.co
def rdC (d : Deed) : List Cl := upC (rdL d.parts)
theorem rdC_mem {d : Deed} {c : Cl} : c ∈ rdC d ↔ ∃ p ∈ d.parts, p.2.co c ≠ 0 := by
  unfold rdC rdL
  rw [upC_mem, List.mem_flatMap]
  exact ⟨fun ⟨p, h, e⟩ => ⟨p, h, supp_mem.mp e⟩, fun ⟨p, h, e⟩ => ⟨p, h, supp_mem.mpr e⟩⟩
def comB (a b : List Cl) : Bool := a.any fun c => decide (c ∈ b)
theorem comB_iff {a b : List Cl} : comB a b = true ↔ ∃ c, c ∈ a ∧ c ∈ b := by
  unfold comB
  rw [List.any_eq_true]
  exact ⟨fun ⟨c, h, e⟩ => ⟨c, h, of_decide_eq_true e⟩, fun ⟨c, h, e⟩ => ⟨c, h, decide_eq_true e⟩⟩
def tiedB (a b : Deed) : Bool := comB (wrC a) (wrC b) || (comB (wrC a) (rdC b) || comB (rdC a) (wrC b))
theorem wr_map (d : Deed) : (d.parts.map fun p => D.str (cl p.1)) = clD (wrC d) := by
  unfold clD wrC
  rw [List.map_map]
  rfl
end T
end
section
set_option maxRecDepth 100000
set_option maxHeartbeats 0
namespace T
open PySem G
local macro_rules | `(tactic| row_hasAny fx) => `(tactic| fail)
local macro_rules | `(tactic| row_hasAny iff) => `(tactic| fail)
local macro_rules | `(tactic| row_hasAny lf) => `(tactic| with_reducible first | exact l_add _ _ | exact l_sub _ _ | exact pTup2 _ _ | exact l_lst rfl | exact l_eqi _ _ | exact l_nei _ _ | exact l_lti _ _ | exact l_lei _ _ | exact l_gti _ _ | exact l_gei _ _ | exact l_lenT _ | exact l_lenL _ | exact l_lenS _ | exact l_tupleL _ | exact l_ix0 _ _ | exact l_ix1 _ _ _ | exact l_ix2 _ _ _ _ | exact l_neg _ | exact pTup0 | exact pTup1 _ | exact pTup3 _ _ _ | exact l_tup rfl | exact pDk_sem | exact pDt_sem)
local macro_rules | `(tactic| row_hasAny fn) => `(tactic| with_reducible assumption)
local macro_rules | `(tactic| row_hasAny ev1) => `(tactic| first | row_hasAny fx | (with_reducible change evE _ _ = _; with_reducible first | apply e_var | apply ce_call | exact e_ki | exact e_ks | exact e_kb | exact e_kn | apply e_pr | apply e_meth | apply ce_chain | apply ce_not | apply ce_bool | apply ce_ife) | (with_reducible change evEs _ _ = _; with_reducible first | exact es_nil | apply es_cons) | (with_reducible change gt _ _ = _; with_reducible first | exact g_z | apply g_s) | (with_reducible change List.set _ _ _ = _; with_reducible first | exact st_z | apply st_s) | (with_reducible change evAs _ _ = _; with_reducible first | exact as_nil | apply as_val | apply as_lent) | (with_reducible change fill _ _ _ = _; with_reducible first | exact fl_nil | apply fl_val | apply fl_lent) | (with_reducible change putB _ _ _ = _; with_reducible first | exact pb_nil | apply pb_val | apply pb_lent) | (with_reducible change Pr.sem _ _ = _; first | row_hasAny lf | row_hasAny fn) | (with_reducible change Fn.sem _ _ = _; row_hasAny fn) | (with_reducible change bnd _ _ _ = _; with_reducible first | apply bd_name | apply bd_tup | apply bd_lst | apply bd_wtp) | (with_reducible change List.length _ = _; with_reducible first | exact le_z | apply le_s) | (with_reducible change _ < List.length _; with_reducible first | exact lt_z | apply lt_s) | (with_reducible change evT _ _ = _; with_reducible first | apply ct_var | apply t_pr | apply ct_call | apply ct_not | apply ct_bool | apply ct_chain | apply ct_meth) | (with_reducible change evBT _ _ _ = _; with_reducible first | apply tb_one | apply tb_and | apply tb_or) | (with_reducible change tru _ = _; with_reducible first | exact tru_bl _ | exact tru_int _ | exact tru_tup _ | exact tru_lst _) | (with_reducible change Wp _ _ _; first | (with_reducible first | apply wp_asg | apply wp_own | apply wp_par | apply wp_setIt | apply wp_app | apply wp_ext | apply wp_rem | apply wp_upd | apply wp_expr | apply wp_frz | apply wp_pass | apply wp_ret | apply wp_nilT) | row_hasAny iff) | (with_reducible first | apply cb_one | apply cb_and | apply cb_or | exact ts_nil | apply ts_one | exact bd_nil | apply bd_cons | exact wi_nil | apply wi_cons | exact ps_nil | apply ps_cons | apply or_f | exact or_lt _ _ | exact or_le _ _ | exact l_isLst _ | exact l_isDk _ | exact l_seqT _ | exact l_seqL _) | row_hasAny lf | row_hasAny fn | with_reducible rfl)
local macro_rules | `(tactic| row_hasAny ev) => `(tactic| repeat row_hasAny ev1)
local macro_rules | `(tactic| row_hasAny lf) => `(tactic| with_reducible first | exact l_eD2 _ | exact l_lstC _ | exact l_tupC _ | exact cl_inT _ _)
local macro_rules | `(tactic| row_hasAny fx) => `(tactic| with_reducible assumption)
theorem writes_semC (d : Deed) (h : d.parts.length ≤ 16777216) : f_writes.sem [eD d] = .ret (.tup (clD (wrC d))) [] := by
  refine fn_wp (n := 3) (ls := []) ?_
  show Wp c_writes [eD d, .non, .non] _
  have ec := ce_compA (P := iSeq) (cs := .cons (.pr pIx (.cons (.var 0) (.cons (.pr (kPr (.int 2)) .nil) .nil))) .nil) (tg := .tup [(.name 1), (.name 2)]) (elt := .var 1) (own := [1, 2]) (s := [eD d, .non, .non]) (w := [eD d, .non, .non]) (xs := d.parts) (enc := eP) (g := fun p => .str (cl p.1))
    (es_cons (e_pr (es_cons (e_var rfl) (es_cons e_ki es_nil)) (l_eD2 d)) es_nil) rfl h rfl (fun p hp => ⟨[eD d, .str (cl p.1), eF p.2], rfl, rfl, e_var rfl⟩)
  rw [wr_map] at ec
  exact wp_ret (e_pr (es_cons ec es_nil) rfl) ⟨rfl, rfl⟩
theorem cells_in_sem (f : Fm) : f_cells_in.sem [eF f] = .ret (.tup (clD (suppC f.co))) [] := by
  have hl := f.len
  refine fn_wp (n := 3) (ls := []) ?_
  show Wp c_cells_in [eF f, .non, .non] _
  have ec := ce_compA (P := iSeq) (cs := .cons (.pr pIx (.cons (.var 0) (.cons (.pr (kPr (.int 1)) .nil) .nil))) .nil) (tg := .tup [(.name 1), (.name 2)]) (elt := .var 1) (own := [1, 2]) (s := [eF f, .non, .non]) (w := [eF f, .non, .non]) (xs := f.raw.2) (enc := encP) (g := fun p => .str p.1)
    (es_cons (e_pr (P := pIx) (es_cons (e_var rfl) (es_cons e_ki es_nil)) (ix1 _ _)) es_nil) (seq_encT f.raw.2) (by omega) rfl (fun p hp => ⟨[eF f, .str p.1, .int p.2], rfl, rfl, e_var rfl⟩)
  have e : (f.raw.2.map fun p => D.str p.1) = clD (suppC f.co) := terms_supp f.co
  rw [e] at ec
  exact wp_ret (e_pr (es_cons ec es_nil) (l_tupC _)) ⟨rfl, rfl⟩
theorem reads_sem (d : Deed) (h : d.parts.length ≤ 400) : f_reads.sem [eD d] = .ret (.tup (clD (rdC d))) [] := by
  refine fn_wp (n := 4) (ls := []) ?_
  show Wp c_reads [eD d, .non, .non, .non] _
  unfold c_reads
  refine wp_own (s2 := [eD d, .lst (clD []), .non, .non]) (e_pr es_nil (l_lst rfl)) rfl ?_
  refine wp_for (enc := eP) (xs := d.parts) (fun a p => a ++ suppC p.2.co) (fun n a s => a.length + 8 * n ≤ 8 * d.parts.length ∧ ∃ x y, s = [eD d, .lst (clD a), x, y]) [] (es_cons (e_pr (es_cons (e_var rfl) (es_cons e_ki es_nil)) (l_eD2 d)) es_nil) rfl ⟨by simp, _, _, rfl⟩ ?_ ?_
  · rintro n a p s hp ⟨ha, x, y, rfl⟩
    have sl := supp_len p.2.co
    have h1 := cells_in_sem p.2
    have h2 := l_extC a (suppC p.2.co) (by omega)
    refine ⟨[eD d, .lst (clD a), .str (cl p.1), eF p.2], rfl, ?_⟩
    unfold b_reads_1
    row_hasAny ev
    refine turn_nil ⟨?_, _, _, rfl⟩
    rw [List.length_append]
    omega
  · rintro s ⟨ha, x, y, rfl⟩
    have e : ∀ (ps : List (Cl × Fm)) (a : List Cl), ps.foldl (fun a p => a ++ suppC p.2.co) a = a ++ rdL ps := by
      intro ps
      induction ps with
      | nil => intro a; simp [rdL]
      | cons p r ih =>
        intro a
        rw [List.foldl_cons, ih, List.append_assoc]
        rfl
    rw [e, List.nil_append] at ha ⊢
    have h1 := sortSet_cl (rdL d.parts) (by omega)
    row_hasAny ev
    exact ⟨rfl, rfl⟩
end T
end
section
set_option maxRecDepth 100000
namespace T
open PySem G
/-! enumerate of a row -/
theorem enL_zip (k : Nat) : ∀ (ds : List Deed) , enL k (ds.map eD) = (ds.zipIdx k).map fun p => .wtp [.int (p.2 : Nat), eD p.1] := by
  intro ds
  induction ds generalizing k with
  | nil => rfl
  | cons d r ih =>
    rw [List.map_cons, List.zipIdx_cons, List.map_cons, ← ih (k + 1)]
    rfl
theorem enum_q (q : List Deed) : iEnum.sem [eR q] = some (q.zipIdx.map fun p => .wtp [.int (p.2 : Nat), eD p.1]) := by
  show some (enL 0 (q.map eD)) = _
  rw [enL_zip]
end T
end
section
set_option maxRecDepth 100000
namespace T
open PySem G
/-! ### maps put together: plain Lean -/
def stepF (m : Cl → Fm) (d : Deed) (c : Cl) : Fm := match d.at c with
  | some f => f.put m
  | none => m c
def mapF (r : List Deed) : Cl → Fm := r.foldl stepF Fm.just
def wrote (r : List Deed) (c : Cl) : Bool := r.any fun d => decide (c ∈ d.parts.map (·.1))
def joinV (n : Str) (t : Int) (r : List Deed) : Deed := ⟨n, t, (cls.filter (wrote r)).map fun c => (c, mapF r c)⟩
def doneW (w : Cl → Int) (d : Deed) (c : Cl) : Int := match d.at c with
  | some f => f.worth w
  | none => w c
def runW (w : Cl → Int) (r : List Deed) : Cl → Int := r.foldl doneW w
theorem just_worth (c : Cl) (w : Cl → Int) : (Fm.just c).worth w = w c := by
  show 0 + s8 (fun d => w d * (if d = c then 1 else 0)) = w c
  rw [show (fun d => w d * (if d = c then (1 : Int) else 0)) = fun d => (if d = c then 1 else 0) * w d from funext fun d => Int.mul_comm _ _, s8_one]
  omega
theorem Fm.just_put (c : Cl) (m : Cl → Fm) : (Fm.just c).put m = m c := by
  refine Fm.ext' ?_ fun d => ?_
  · show 0 + s8 (fun e => (m e).num * (if e = c then 1 else 0)) = (m c).num
    rw [show (fun e => (m e).num * (if e = c then (1 : Int) else 0)) = fun e => (if e = c then 1 else 0) * (m e).num from funext fun d => Int.mul_comm _ _, s8_one]
    omega
  · show s8 (fun e => (m e).co d * (if e = c then 1 else 0)) = (m c).co d
    rw [show (fun e => (m e).co d * (if e = c then (1 : Int) else 0)) = fun e => (if e = c then 1 else 0) * (m e).co d from funext fun d => Int.mul_comm _ _, s8_one]
theorem Fm.put_just (f : Fm) : f.put Fm.just = f := f.put_itself _ fun _ => rfl
theorem s8_comm (x : Cl → Int) (y : Cl → Cl → Int) (z : Cl → Int) : s8 (fun d => x d * s8 (fun c => y c d * z c)) = s8 fun c => s8 (fun d => x d * y c d) * z c := by
  rw [show (fun d => x d * s8 fun c => y c d * z c) = fun d => s8 fun c => x d * (y c d * z c) from funext fun d => (s8_mull _ _).symm, s8_swap]
  congr 1
  funext c
  rw [← s8_mulr]
  congr 1
  funext d
  exact (Int.mul_assoc _ _ _).symm
theorem Fm.put_put (f : Fm) (a b : Cl → Fm) : (f.put a).put b = f.put fun c => (a c).put b := by
  refine Fm.ext' ?_ fun e => ?_
  · show f.num + s8 (fun c => (a c).num * f.co c) + s8 (fun d => (b d).num * s8 fun c => (a c).co d * f.co c) = f.num + s8 fun c => ((a c).num + s8 fun d => (b d).num * (a c).co d) * f.co c
    rw [s8_comm (fun d => (b d).num) (fun c d => (a c).co d) f.co]
    rw [show (fun c => ((a c).num + s8 fun d => (b d).num * (a c).co d) * f.co c) = fun c => (a c).num * f.co c + (s8 fun d => (b d).num * (a c).co d) * f.co c from funext fun c => Int.add_mul _ _ _, s8_add]
    omega
  · show s8 (fun d => (b d).co e * s8 fun c => (a c).co d * f.co c) = s8 fun c => (s8 fun d => (b d).co e * (a c).co d) * f.co c
    exact s8_comm (fun d => (b d).co e) (fun c d => (a c).co d) f.co
theorem stepF_put (d : Deed) (m : Cl → Fm) (c : Cl) : (stepF Fm.just d c).put m = stepF m d c := by
  unfold stepF
  cases d.at c with
  | some f =>
    show (f.put Fm.just).put m = f.put m
    rw [Fm.put_just]
  | none => exact Fm.just_put c m
theorem foldF : ∀ (r : List Deed) (m : Cl → Fm) (c : Cl), r.foldl stepF m c = (mapF r c).put m
  | [], m, c => (Fm.just_put c m).symm
  | d :: r, m, c => by
    have h1 := foldF r (stepF m d) c
    have h2 : mapF (d :: r) c = (mapF r c).put (stepF Fm.just d) := foldF r (stepF Fm.just d) c
    rw [h2, Fm.put_put]
    show r.foldl stepF (stepF m d) c = _
    rw [h1]
    congr 1
    funext e
    exact (stepF_put d m e).symm
theorem mapF_app (r q : List Deed) (c : Cl) : mapF (r ++ q) c = (mapF q c).put (mapF r) := by
  unfold mapF
  rw [List.foldl_append]
  exact foldF q _ c
theorem mapF_one (d : Deed) : mapF [d] = stepF Fm.just d := rfl
theorem run_map : ∀ (r : List Deed) (w : Cl → Int) (c : Cl), runW w r c = (mapF r c).worth w
  | [], w, c => (just_worth c w).symm
  | d :: r, w, c => by
    have h2 : mapF (d :: r) c = (mapF r c).put (stepF Fm.just d) := foldF r (stepF Fm.just d) c
    show runW (doneW w d) r c = _
    rw [run_map r (doneW w d) c, h2, Fm.worth_put]
    congr 1
    funext e
    unfold doneW stepF
    cases d.at e with
    | some f =>
      show f.worth w = (f.put Fm.just).worth w
      rw [Fm.put_just]
    | none => exact (just_worth e w).symm
theorem at_none {d : Deed} {c : Cl} (h : c ∉ d.parts.map (·.1)) : d.at c = none := lkF_none h
theorem unwrote : ∀ (r : List Deed) (m : Cl → Fm) (c : Cl), wrote r c = false → r.foldl stepF m c = m c
  | [], m, c, _ => rfl
  | d :: r, m, c, h => by
    have h' : (decide (c ∈ d.parts.map (·.1)) || wrote r c) = false := h
    rw [Bool.or_eq_false_iff] at h'
    show r.foldl stepF (stepF m d) c = m c
    rw [unwrote r _ c h'.2]
    unfold stepF
    rw [at_none (of_decide_eq_false h'.1)]
theorem mapF_un {r : List Deed} {c : Cl} (h : wrote r c = false) : mapF r c = Fm.just c := unwrote r _ c h
theorem join_at (n : Str) (t : Int) (r : List Deed) (c : Cl) : (joinV n t r).at c = if wrote r c = true then some (mapF r c) else none := by
  show lkF c ((cls.filter (wrote r)).map fun c => (c, mapF r c)) = _
  rw [lkF_mapf]
  by_cases h : wrote r c = true
  · rw [if_pos (List.mem_filter.mpr ⟨cls_all c, h⟩), if_pos h]
  · rw [if_neg fun z => h (List.mem_filter.mp z).2, if_neg h]
theorem join_map (n : Str) (t : Int) (r : List Deed) : mapF [joinV n t r] = mapF r := by
  funext c
  rw [mapF_one]
  unfold stepF
  rw [join_at]
  by_cases h : wrote r c = true
  · rw [if_pos h]; exact Fm.put_just _
  · rw [if_neg h]; exact (mapF_un (by simpa using h)).symm
theorem join_wrote (n : Str) (t : Int) (r : List Deed) (c : Cl) : wrote [joinV n t r] c = wrote r c := by
  show (decide (c ∈ ((cls.filter (wrote r)).map fun c => (c, mapF r c)).map (·.1)) || false) = _
  rw [Bool.or_false, List.map_map, Bool.eq_iff_iff, decide_eq_true_eq]
  show c ∈ (cls.filter (wrote r)).map (fun c => c) ↔ _
  rw [List.map_id', List.mem_filter]
  exact ⟨fun h => h.2, fun h => ⟨cls_all c, h⟩⟩
theorem join_join (n : Str) (t : Int) (r : List Deed) : joinV n t [joinV n t r] = joinV n t r := by
  have h : wrote [joinV n t r] = wrote r := funext fun c => join_wrote n t r c
  unfold joinV
  congr 1
  rw [show [(⟨n, t, (cls.filter (wrote r)).map fun c => (c, mapF r c)⟩ : Deed)] = [joinV n t r] from rfl, h, join_map]
theorem join_done (n : Str) (t : Int) (r : List Deed) (w : Cl → Int) : doneW w (joinV n t r) = runW w r := by
  funext c
  rw [run_map]
  unfold doneW
  rw [join_at]
  by_cases h : wrote r c = true
  · rw [if_pos h]
  · rw [if_neg h, mapF_un (by simpa using h), just_worth]
theorem cls_lt : cls.Pairwise (· < ·) := by decide +kernel
theorem join_ok {n : Str} {t : Int} {r : List Deed} {k : Nat} (h : ∀ c, (mapF r c).sm k) : DOk k (joinV n t r) where
  up := by
    show (((cls.filter (wrote r)).map fun c => (c, mapF r c)).map (·.1)).Pairwise (· < ·)
    rw [List.map_map]
    show ((cls.filter (wrote r)).map fun c => c).Pairwise (· < ·)
    rw [List.map_id']
    exact cls_lt.filter _
  sm := fun p hp => by
    obtain ⟨c, _, rfl⟩ := List.mem_map.mp hp
    exact h c
theorem wrote_app (r q : List Deed) (c : Cl) : wrote (r ++ q) c = (wrote r c || wrote q c) := List.any_append
end T
end
section
set_option maxRecDepth 100000
set_option maxHeartbeats 0
namespace T
open PySem G
/-! ### texts of cells -/
def txC (l : List Cl) : Str := ⟨(l.map fun c => 97 + c.val).toArray⟩
theorem str_ext {a b : Str} (h : a.cps.toList = b.cps.toList) : a = b := by
  cases a with
  | mk x =>
    cases b with
    | mk y =>
      have h : x.toList = y.toList := h
      rw [Array.toList_inj.mp h]
theorem txC_app (a b : List Cl) : txC a ++ txC b = txC (a ++ b) := by
  apply str_ext
  show ((txC a).cps ++ (txC b).cps).toList = _
  rw [Array.toList_append]
  unfold txC
  simp
theorem txC_cls : txC cls = "abcdefgh" := by decide +kernel
theorem txC_one (c : Cl) : txC [c] = cl c := rfl
theorem txC_len (l : List Cl) : (txC l).length = l.length := by
  show (txC l).cps.size = _
  unfold txC
  simp
theorem signs_txC (l : List Cl) : charsD (txC l) = clD l := by
  unfold charsD txC clD
  simp only [List.map_map]
  rfl
theorem chars_txC (l : List Cl) : (chars (txC l)).map D.str = clD l := by
  unfold chars txC clD
  simp only [List.map_map]
  rfl
theorem join_txC : ∀ l : List Cl, Txt.join "" (l.map cl) = txC l := by
  intro l
  rw [show Txt.join "" (l.map cl) = Str.join "" (l.map cl) from StrLaws.glued_eq_join _ _]
  induction l with
  | nil => rfl
  | cons c r ih =>
    cases r with
    | nil => rfl
    | cons d r =>
      show cl c ++ "" ++ Str.join "" ((d :: r).map cl) = _
      rw [ih]
      rw [show cl c ++ "" = cl c from by revert c; decide +kernel, ← txC_one c, txC_app]
      rfl
theorem l_joinC (l : List Cl) (h : l.length ≤ 1000000) : mJoin.sem (.str "") [.lst (clD l)] = some (.str (txC l)) := by
  show joinL "" (clD l) = _
  unfold joinL
  rw [strs_cl]
  dsimp only
  have e : ((l.map cl).map (·.length)).sum = l.length := by
    induction l with
    | nil => rfl
    | cons c r ih =>
      rw [List.map_cons, List.map_cons, List.sum_cons, ih (by rw [List.length_cons] at h; omega), List.length_cons]
      show 1 + r.length = _
      omega
  rw [if_pos (by rw [e, show ("" : Str).length = 0 from rfl]; omega), join_txC]
theorem l_joinT (l : List Cl) (h : l.length ≤ 1000000) : mJoin.sem (.str "") [.tup (clD l)] = some (.str (txC l)) := l_joinC l h
theorem l_recvS (z : Str) : mJoin.recv (.str z) = true := rfl
theorem l_listC (l : List Cl) (h : l.length ≤ 1000000) : pListS.sem [.str (txC l)] = some (.lst (clD l)) := by
  show (if (txC l).length ≤ 16777216 then some (D.lst (charsD (txC l))) else none) = _
  rw [txC_len, if_pos (by omega), signs_txC]
theorem l_catC (a b : List Cl) (h : a.length + b.length ≤ 1000000) : pAdd.sem [.str (txC a), .str (txC b)] = some (.str (txC (a ++ b))) := by
  show (if (txC a).length + (txC b).length ≤ sizeLine then some (D.str (txC a ++ txC b)) else none) = _
  rw [sizeLine_eq, txC_len, txC_len, if_pos (by omega), txC_app]
theorem seq_txC (l : List Cl) : iSeq.sem [.str (txC l)] = some (clD l) := by
  rw [← chars_txC]
  exact seq_str (txC l)
theorem inT_txC (c : Cl) (l : List Cl) : inB (.str (cl c)) (.str (txC l)) = some (decide (c ∈ l)) := by
  show some (decide ((97 + c.val) ∈ (txC l).cps.toList)) = _
  congr 1
  rw [Bool.eq_iff_iff, decide_eq_true_eq, decide_eq_true_eq]
  show 97 + c.val ∈ (l.map fun c => 97 + c.val).toArray.toList ↔ _
  rw [List.toList_toArray, List.mem_map]
  constructor
  · rintro ⟨d, hd, e⟩
    have : d = c := Fin.ext (by omega)
    exact this ▸ hd
  · intro h
    exact ⟨c, h, rfl⟩
theorem l_inTx (c : Cl) (l : List Cl) : pIn.sem [.str (cl c), .str (txC l)] = some (.bl (decide (c ∈ l))) := by
  show (inB (.str (cl c)) (.str (txC l))).map D.bl = _
  rw [inT_txC]
  rfl
theorem l_ninTx (c : Cl) (l : List Cl) : pNin.sem [.str (cl c), .str (txC l)] = some (.bl (!decide (c ∈ l))) := by
  show (inB (.str (cl c)) (.str (txC l))).map (fun b => D.bl (!b)) = _
  rw [inT_txC]
  rfl
/-! ### numbers -/
def nD (l : List Nat) : List D := l.map fun n => .int (n : Nat)
theorem nD_int (l : List Nat) : nD l = (l.map fun n : Nat => (n : Int)).map D.int := by unfold nD; rw [List.map_map]; rfl
theorem rng_nD (n : Nat) : rangeL 0 n = nD (List.range n) := by
  unfold rangeL nD
  exact List.map_congr_left fun i _ => by rw [Int.zero_add]
theorem sort_nD {l m : List Nat} (p : m.Perm l) (u : m.Pairwise (· < ·)) : pSorted.sem [.lst (nD l)] = some (.lst (nD m)) := by
  show sortS (.lst (nD l)) = _
  rw [nD_int, nD_int]
  show (match intsOf ((l.map fun n : Nat => (n : Int)).map D.int) with
    | some ns => some (D.lst ((sortInt ns).map .int))
    | none => _) = _
  rw [ints_enc]
  dsimp only
  congr 2
  rw [← sortInt_of (p.map fun n : Nat => (n : Int))]
  rw [List.pairwise_map]
  exact u.imp fun h => Int.ofNat_le.mpr (Nat.le_of_lt h)
theorem l_lrg (n : Nat) (h : n ≤ 16777216) : pLRg1.sem [.int (n : Nat)] = some (.lst (nD (List.range n))) := by
  show (if (n : Int).natAbs ≤ 16777216 then some (D.lst (rangeL 0 (n : Int).toNat)) else none) = _
  rw [if_pos (by omega), Int.toNat_natCast, rng_nD]
theorem l_trg (n : Nat) (h : n ≤ 16777216) : pTRg1.sem [.int (n : Nat)] = some (.tup (nD (List.range n))) := by
  show (if (n : Int).natAbs ≤ 16777216 then some (D.tup (rangeL 0 (n : Int).toNat)) else none) = _
  rw [if_pos (by omega), Int.toNat_natCast, rng_nD]
theorem i_rng (n : Nat) (h : n ≤ 16777216) : iRng1.sem [.int (n : Nat)] = some (nD (List.range n)) := by
  show (if (n : Int).natAbs < 4611686018427387904 then some (rangeL 0 (n : Int).toNat) else none) = _
  rw [if_pos (by omega), Int.toNat_natCast, rng_nD]
theorem l_revN (l : List Nat) : (pRev).sem [.lst (nD l)] = some (.lst (nD l.reverse)) := by
  unfold nD
  rw [List.map_reverse]
  rfl
theorem n_inT (n : Nat) (l : List Nat) : pIn.sem [.int (n : Nat), .tup (nD l)] = some (.bl (decide (n ∈ l))) := Dat.nat.l_in_tup (by decide) n l
theorem n_ninT (n : Nat) (l : List Nat) : pNin.sem [.int (n : Nat), .tup (nD l)] = some (.bl (!decide (n ∈ l))) := Dat.nat.l_nin_tup (by decide) n l
theorem n_inL (n : Nat) (l : List Nat) : pIn.sem [.int (n : Nat), .lst (nD l)] = some (.bl (decide (n ∈ l))) := Dat.nat.l_in_lst (by decide) n l
theorem l_tupN (l : List Nat) : pTuple.sem [.lst (nD l)] = some (.tup (nD l)) := rfl
theorem l_lenN (l : List Nat) : pLen.sem [.tup (nD l)] = some (.int (l.length : Nat)) := by
  show some (D.int ((nD l).length : Nat)) = _
  unfold nD
  rw [List.length_map]
theorem l_neN (l : List Nat) : pNe.sem [.tup (nD l), .tup (nD l)] = some (.bl false) := by
  have h := (Dat.tup Dat.nat).l_ne (by decide) l l
  simp only [decide_true, Bool.not_true] at h
  exact h
theorem ix_R {r : List Deed} {i : Nat} {d : Deed} (h : r[i]? = some d) : pIx.sem [eR r, .int (i : Nat)] = some (eD d) := ix_n (by rw [List.getElem?_map, h]; rfl)
theorem l_revR (q : List Deed) : (pRev).sem [eR q] = some (eR q.reverse) := by
  unfold eR
  rw [List.map_reverse]
  rfl
theorem l_tupR (q : List Deed) : pTuple.sem [.lst (q.map eD)] = some (eR q) := rfl
end T
end
section
set_option maxRecDepth 100000
set_option maxHeartbeats 0
namespace T
open PySem G
/-! ### what is needed: plain Lean -/
def hitB (P : Cl → Bool) (d : Deed) : Bool := (wrC d).any P
def stepP (P : Cl → Bool) (d : Deed) : Cl → Bool := if hitB P d = true then fun c => (P c && !decide (c ∈ wrC d)) || decide (c ∈ rdC d) else P
def srcP : List Deed → (Cl → Bool) → Cl → Bool
  | [], P => P
  | d :: r, P => stepP (srcP r P) d
def needL (k : Nat) : List Deed → (Cl → Bool) → List Nat
  | [], _ => []
  | d :: r, P => (if hitB (srcP r P) d = true then [k] else []) ++ needL (k + 1) r P
def slimP : List Deed → (Cl → Bool) → List Deed
  | [], _ => []
  | d :: r, P => (if hitB (srcP r P) d = true then [d] else []) ++ slimP r P
theorem need_ge : ∀ (r : List Deed) (k : Nat) (P : Cl → Bool) (i : Nat), i ∈ needL k r P → k ≤ i ∧ i < k + r.length
  | [], k, P, i, h => by cases h
  | d :: r, k, P, i, h => by
    rw [List.length_cons]
    rcases List.mem_append.mp h with h | h
    · split at h
      · have := List.mem_singleton.mp h
        omega
      · cases h
    · have := need_ge r (k + 1) P i h
      omega
theorem need_up : ∀ (r : List Deed) (k : Nat) (P : Cl → Bool), (needL k r P).Pairwise (· < ·)
  | [], _, _ => List.Pairwise.nil
  | d :: r, k, P => by
    show ((if hitB (srcP r P) d = true then [k] else []) ++ needL (k + 1) r P).Pairwise (· < ·)
    split
    · rw [List.singleton_append, List.pairwise_cons]
      exact ⟨fun i hi => (need_ge r (k + 1) P i hi).1, need_up r (k + 1) P⟩
    · exact need_up r (k + 1) P
theorem need_len : ∀ (r : List Deed) (k : Nat) (P : Cl → Bool), (needL k r P).length ≤ r.length
  | [], _, _ => Nat.le_refl _
  | d :: r, k, P => by
    have h := need_len r (k + 1) P
    show ((if hitB (srcP r P) d = true then [k] else []) ++ needL (k + 1) r P).length ≤ _
    rw [List.length_append, List.length_cons]
    split <;> simp <;> omega
/-- number i is needed just if its deed writes something that is needed behind it -/
theorem need_mem : ∀ (r : List Deed) (k i : Nat) (P : Cl → Bool), (k + i) ∈ needL k r P ↔ ∃ d, r[i]? = some d ∧ hitB (srcP (r.drop (i + 1)) P) d = true
  | [], k, i, P => by simp [needL]
  | d :: r, k, 0, P => by
    show k ∈ (if hitB (srcP r P) d = true then [k] else []) ++ needL (k + 1) r P ↔ _
    rw [List.mem_append]
    have h1 : k ∉ needL (k + 1) r P := fun h => by
      have := (need_ge r (k + 1) P k h).1
      omega
    constructor
    · rintro (h | h)
      · split at h
        · rename_i q; exact ⟨d, rfl, q⟩
        · cases h
      · exact absurd h h1
    · rintro ⟨e, he, q⟩
      have he : d = e := Option.some.inj he
      subst he
      have q : hitB (srcP r P) d = true := q
      rw [if_pos q]
      exact .inl (List.mem_singleton.mpr rfl)
  | d :: r, k, i + 1, P => by
    have ih := need_mem r (k + 1) i P
    rw [show k + 1 + i = k + (i + 1) by omega] at ih
    show k + (i + 1) ∈ (if hitB (srcP r P) d = true then [k] else []) ++ needL (k + 1) r P ↔ ∃ e, r[i]? = some e ∧ hitB (srcP (r.drop (i + 1)) P) e = true
    rw [← ih, List.mem_append]
    constructor
    · rintro (h | h)
      · split at h
        · have := List.mem_singleton.mp h
          omega
        · cases h
      · exact h
    · exact .inr
theorem need_mem0 {r : List Deed} {i : Nat} {P : Cl → Bool} : i ∈ needL 0 r P ↔ ∃ d, r[i]? = some d ∧ hitB (srcP (r.drop (i + 1)) P) d = true := by
  have h := need_mem r 0 i P
  rw [Nat.zero_add] at h
  exact h
theorem hit_or (P Q : Cl → Bool) (d : Deed) : hitB (fun c => P c || Q c) d = (hitB P d || hitB Q d) := by
  unfold hitB
  rw [Bool.eq_iff_iff, Bool.or_eq_true, List.any_eq_true, List.any_eq_true, List.any_eq_true]
  constructor
  · rintro ⟨c, h, e⟩
    rcases Bool.or_eq_true_iff.mp e with e | e
    · exact .inl ⟨c, h, e⟩
    · exact .inr ⟨c, h, e⟩
  · rintro (⟨c, h, e⟩ | ⟨c, h, e⟩)
    · exact ⟨c, h, by rw [e]; rfl⟩
    · exact ⟨c, h, by rw [e]; exact Bool.or_true _⟩
theorem nohit {P : Cl → Bool} {d : Deed} (h : hitB P d = false) {c : Cl} (hp : P c = true) : c ∉ wrC d := fun hc => by
  have : hitB P d = true := List.any_eq_true.mpr ⟨c, hc, hp⟩
  rw [this] at h
  cases h
theorem step_or (P Q : Cl → Bool) (d : Deed) : stepP (fun c => P c || Q c) d = fun c => stepP P d c || stepP Q d c := by
  unfold stepP
  rw [hit_or]
  funext c
  cases hp : hitB P d with
  | true =>
    cases hq : hitB Q d with
    | true =>
      simp only [Bool.or_true, if_true]
      cases P c <;> cases Q c <;> cases decide (c ∈ wrC d) <;> cases decide (c ∈ rdC d) <;> rfl
    | false =>
      simp only [Bool.or_false, if_true, Bool.false_eq_true, if_false]
      cases e : Q c with
      | false => simp
      | true =>
        have := nohit hq e
        simp [this]
  | false =>
    cases hq : hitB Q d with
    | true =>
      simp only [Bool.false_or, if_true, Bool.false_eq_true, if_false]
      cases e : P c with
      | false => simp
      | true =>
        have := nohit hp e
        simp [this]
    | false => simp
theorem src_or : ∀ (r : List Deed) (P Q : Cl → Bool), srcP r (fun c => P c || Q c) = fun c => srcP r P c || srcP r Q c
  | [], _, _ => rfl
  | d :: r, P, Q => by
    show stepP (srcP r _) d = _
    rw [src_or r P Q]
    exact step_or _ _ d
theorem need_or {r : List Deed} {P Q : Cl → Bool} {i : Nat} : i ∈ needL 0 r (fun c => P c || Q c) ↔ i ∈ needL 0 r P ∨ i ∈ needL 0 r Q := by
  rw [need_mem0, need_mem0, need_mem0]
  constructor
  · rintro ⟨d, h, e⟩
    rw [src_or, hit_or, Bool.or_eq_true] at e
    rcases e with e | e
    · exact .inl ⟨d, h, e⟩
    · exact .inr ⟨d, h, e⟩
  · rintro (⟨d, h, e⟩ | ⟨d, h, e⟩)
    · exact ⟨d, h, by rw [src_or, hit_or, e]; rfl⟩
    · exact ⟨d, h, by rw [src_or, hit_or, e]; exact Bool.or_true _⟩
theorem hit_none (d : Deed) : hitB (fun _ => false) d = false := by simp [hitB]
theorem src_off {P : Cl → Bool} : ∀ (r : List Deed), (∀ d ∈ r, hitB P d = false) → srcP r P = P
  | [], _ => rfl
  | d :: r, h => by
    show stepP (srcP r P) d = P
    rw [src_off r fun e he => h e (List.mem_cons_of_mem _ he)]
    unfold stepP
    rw [h d List.mem_cons_self, if_neg Bool.false_ne_true]
theorem need_off {P : Cl → Bool} : ∀ (r : List Deed) (k : Nat), (∀ d ∈ r, hitB P d = false) → needL k r P = []
  | [], _, _ => rfl
  | d :: r, k, h => by
    have h2 : ∀ e ∈ r, hitB P e = false := fun e he => h e (List.mem_cons_of_mem _ he)
    show (if hitB (srcP r P) d = true then [k] else []) ++ needL (k + 1) r P = []
    rw [src_off r h2, h d List.mem_cons_self, if_neg Bool.false_ne_true, need_off r (k + 1) h2]
    rfl
theorem src_app (P : Cl → Bool) (b : List Deed) : ∀ a : List Deed, srcP (a ++ b) P = srcP a (srcP b P)
  | [] => rfl
  | d :: a => by
    show stepP (srcP (a ++ b) P) d = stepP (srcP a (srcP b P)) d
    rw [src_app P b a]
theorem need_app (P : Cl → Bool) (b : List Deed) : ∀ (a : List Deed) (k : Nat), needL k (a ++ b) P = needL k a (srcP b P) ++ needL (k + a.length) b P
  | [], k => rfl
  | d :: a, k => by
    show (if hitB (srcP (a ++ b) P) d = true then [k] else []) ++ needL (k + 1) (a ++ b) P = ((if hitB (srcP a (srcP b P)) d = true then [k] else []) ++ needL (k + 1) a (srcP b P)) ++ needL (k + (a.length + 1)) b P
    rw [src_app, need_app P b a (k + 1), List.append_assoc, show k + 1 + a.length = k + (a.length + 1) by omega]
theorem need_shift (P : Cl → Bool) : ∀ (r : List Deed) (k : Nat), needL k r P = (needL 0 r P).map (· + k)
  | [], _ => rfl
  | d :: r, k => by
    show (if hitB (srcP r P) d = true then [k] else []) ++ needL (k + 1) r P = ((if hitB (srcP r P) d = true then [0] else []) ++ needL (0 + 1) r P).map (· + k)
    rw [need_shift P r (k + 1), need_shift P r (0 + 1), List.map_append, List.map_map]
    congr 1
    · split <;> simp
    · apply List.map_congr_left
      intro i _
      show i + (k + 1) = i + (0 + 1) + k
      omega
/-! slim rows -/
theorem slim_src (P : Cl → Bool) : ∀ r : List Deed, srcP (slimP r P) P = srcP r P
  | [] => rfl
  | d :: r => by
    show srcP ((if hitB (srcP r P) d = true then [d] else []) ++ slimP r P) P = stepP (srcP r P) d
    cases e : hitB (srcP r P) d with
    | true =>
      rw [if_pos rfl]
      show stepP (srcP (slimP r P) P) d = _
      rw [slim_src P r]
    | false =>
      rw [if_neg Bool.false_ne_true, List.nil_append, slim_src P r]
      unfold stepP
      rw [e, if_neg Bool.false_ne_true]
theorem slim_need (P : Cl → Bool) : ∀ (r : List Deed) (k : Nat), needL k (slimP r P) P = List.range' k (slimP r P).length
  | [], k => rfl
  | d :: r, k => by
    show needL k ((if hitB (srcP r P) d = true then [d] else []) ++ slimP r P) P = _
    cases e : hitB (srcP r P) d with
    | true =>
      have h1 : slimP (d :: r) P = d :: slimP r P := by
        show (if hitB (srcP r P) d = true then [d] else []) ++ slimP r P = _
        rw [e]; rfl
      rw [h1, if_pos rfl]
      show (if hitB (srcP (slimP r P) P) d = true then [k] else []) ++ needL (k + 1) (slimP r P) P = List.range' k ((slimP r P).length + 1)
      rw [slim_src, e, if_pos rfl, slim_need P r (k + 1), List.range'_succ]
      rfl
    | false =>
      have h1 : slimP (d :: r) P = slimP r P := by
        show (if hitB (srcP r P) d = true then [d] else []) ++ slimP r P = _
        rw [e]; rfl
      rw [h1, if_neg Bool.false_ne_true, List.nil_append, slim_need P r k]
theorem slim_sub (P : Cl → Bool) : ∀ (r : List Deed), (slimP r P).Sublist r
  | [] => List.Sublist.refl _
  | d :: r => by
    show ((if hitB (srcP r P) d = true then [d] else []) ++ slimP r P).Sublist (d :: r)
    split
    · exact (slim_sub P r).cons₂ d
    · exact (slim_sub P r).cons d
theorem slim_at (P : Cl → Bool) : ∀ (r : List Deed) (k : Nat) (g : Nat → Option Deed), (∀ i, g (k + i) = r[i]?) → (needL k r P).map g = (slimP r P).map some
  | [], _, _, _ => rfl
  | d :: r, k, g, hg => by
    show ((if hitB (srcP r P) d = true then [k] else []) ++ needL (k + 1) r P).map g = ((if hitB (srcP r P) d = true then [d] else []) ++ slimP r P).map some
    rw [List.map_append, List.map_append, slim_at P r (k + 1) g fun i => by rw [show k + 1 + i = k + (i + 1) by omega, hg]; rfl]
    congr 1
    split
    · have := hg 0
      rw [Nat.add_zero] at this
      rw [List.map_singleton, this]
      rfl
    · rfl
theorem some_inj {α : Type} : ∀ {l m : List α}, l.map some = m.map some → l = m
  | [], [], _ => rfl
  | [], _ :: _, h => by cases h
  | _ :: _, [], h => by cases h
  | a :: l, b :: m, h => by
    rw [List.map_cons, List.map_cons] at h
    injection h with h1 h2
    rw [Option.some.inj h1, some_inj h2]
theorem slim_slim (P : Cl → Bool) (r : List Deed) : slimP (slimP r P) P = slimP r P := by
  have h1 := slim_at P (slimP r P) 0 (fun i => (slimP r P)[i]?) (fun i => by rw [Nat.zero_add])
  rw [slim_need] at h1
  have h2 : (List.range' 0 (slimP r P).length).map (fun i => (slimP r P)[i]?) = (slimP r P).map some := by
    apply List.ext_getElem
    · simp
    · intro i h3 h4
      have hi : i < (slimP r P).length := by simpa using h4
      rw [List.getElem_map, List.getElem_map, List.getElem_range', Nat.zero_add, Nat.one_mul, List.getElem?_eq_getElem hi]
  rw [h2] at h1
  exact (some_inj h1).symm
/-! runs -/
theorem worth_src {f : Fm} {w v : Cl → Int} {d : Deed} {c : Cl} (hf : d.at c = some f) (h : ∀ x, x ∈ rdC d → w x = v x) : f.worth w = f.worth v := by
  show f.num + s8 (fun c => w c * f.co c) = f.num + s8 fun c => v c * f.co c
  congr 2
  funext x
  by_cases z : f.co x = 0
  · rw [z, Int.mul_zero, Int.mul_zero]
  · rw [h x (rdC_mem.mpr ⟨(c, f), lkF_mem hf, z⟩)]
theorem at_off {d : Deed} {c : Cl} (h : c ∉ wrC d) (w : Cl → Int) : doneW w d c = w c := by
  unfold doneW
  rw [at_none h]
theorem done_src {d : Deed} {Q : Cl → Bool} {w v : Cl → Int} (h : ∀ c, stepP Q d c = true → w c = v c) (hq : hitB Q d = true) : ∀ c, Q c = true → doneW w d c = doneW v d c := by
  intro c hc
  unfold stepP at h
  rw [if_pos hq] at h
  cases e : d.at c with
  | none =>
    have hn : c ∉ wrC d := fun z => by
      have : ∀ l : List (Cl × Fm), c ∈ l.map (·.1) → lkF c l ≠ none := by
        intro l
        induction l with
        | nil => intro h; cases h
        | cons p r ih =>
          intro h
          show (if p.1 = c then some p.2 else lkF c r) ≠ none
          by_cases q : p.1 = c
          · rw [if_pos q]; exact fun z => nomatch z
          · rw [if_neg q]
            rw [List.map_cons, List.mem_cons] at h
            exact ih (h.resolve_left fun z => q z.symm)
      exact this d.parts z e
    rw [at_off hn, at_off hn]
    exact h c (by simp [hc, hn])
  | some f =>
    unfold doneW
    rw [e]
    exact worth_src e fun x hx => h x (by simp [hx])
theorem run_src (P : Cl → Bool) : ∀ (r : List Deed) (w v : Cl → Int), (∀ c, srcP r P c = true → w c = v c) → ∀ c, P c = true → runW w r c = runW v (slimP r P) c
  | [], _, _, h, c, hc => h c hc
  | d :: r, w, v, h, c, hc => by
    have h : ∀ c, stepP (srcP r P) d c = true → w c = v c := h
    show runW (doneW w d) r c = runW v ((if hitB (srcP r P) d = true then [d] else []) ++ slimP r P) c
    cases e : hitB (srcP r P) d with
    | true =>
      rw [if_pos rfl]
      show _ = runW (doneW v d) (slimP r P) c
      exact run_src P r _ _ (done_src h e) c hc
    | false =>
      rw [if_neg Bool.false_ne_true, List.nil_append]
      refine run_src P r _ _ (fun x hx => ?_) c hc
      unfold stepP at h
      rw [e, if_neg Bool.false_ne_true] at h
      rw [at_off (nohit e hx)]
      exact h x hx
theorem run_agree (P : Cl → Bool) (r : List Deed) (w v : Cl → Int) (h : ∀ c, srcP r P c = true → w c = v c) (c : Cl) (hc : P c = true) : runW w r c = runW v r c := by
  rw [run_src P r w v h c hc, run_src P r v v (fun _ _ => rfl) c hc]
def allP : Cl → Bool := fun _ => true
theorem run_slim (r : List Deed) (w : Cl → Int) : runW w (slimP r allP) = runW w r := funext fun c => (run_src allP r w w (fun _ _ => rfl) c rfl).symm
theorem run_vain {a b : List Deed} {d : Deed} (h : hitB (srcP b allP) d = false) (w : Cl → Int) : runW w (a ++ b) = runW w (a ++ d :: b) := by
  unfold runW
  rw [List.foldl_append, List.foldl_append, List.foldl_cons]
  funext c
  refine run_agree allP b _ _ (fun x hx => ?_) c rfl
  exact (at_off (nohit h hx) _).symm
end T
end
section
set_option maxRecDepth 100000
set_option maxHeartbeats 0
namespace T
open PySem G
/-! ### who reads, who writes -/
theorem pw_uniq' {l m : List Nat} (h1 : l.Pairwise (· < ·)) (h2 : m.Pairwise (· < ·)) (h : ∀ i, i ∈ l ↔ i ∈ m) : l = m := by
  have n1 : l.Nodup := h1.imp fun h => Nat.ne_of_lt h
  have n2 : m.Nodup := h2.imp fun h => Nat.ne_of_lt h
  exact List.Perm.eq_of_pairwise (le := fun a b => a < b) (fun a b _ _ x y => absurd x (Nat.lt_asymm y)) h1 h2 ((List.perm_ext_iff_of_nodup n1 n2).mpr h)
def atP (p : Deed → Bool) (r : List Deed) (i : Nat) : Bool := (r[i]?.map p).getD false
def whoL (p : Deed → Bool) (r : List Deed) : List Nat := (List.range r.length).filter (atP p r)
theorem at_iff {p : Deed → Bool} {r : List Deed} {i : Nat} : atP p r i = true ↔ ∃ d, r[i]? = some d ∧ p d = true := by
  unfold atP
  cases e : r[i]? with
  | none => simp
  | some d => simp
theorem who_mem {p : Deed → Bool} {r : List Deed} {i : Nat} : i ∈ whoL p r ↔ ∃ d, r[i]? = some d ∧ p d = true := by
  unfold whoL
  rw [List.mem_filter, List.mem_range, at_iff]
  constructor
  · exact fun h => h.2
  · rintro ⟨d, h, e⟩
    exact ⟨(List.getElem?_eq_some_iff.mp h).1, d, h, e⟩
theorem who_up (p : Deed → Bool) (r : List Deed) : (whoL p r).Pairwise (· < ·) := List.pairwise_lt_range.filter _
theorem who_len (p : Deed → Bool) (r : List Deed) : (whoL p r).length ≤ r.length := by
  have := List.length_filter_le (atP p r) (List.range r.length)
  rw [List.length_range] at this
  exact this
theorem who_zip (p : Deed → Bool) (r : List Deed) : ((r.zipIdx.filter fun q => p q.1).map (·.2)) = whoL p r := by
  refine pw_uniq' ?_ (who_up p r) fun i => ?_
  · have h : (r.zipIdx.map (·.2)) = List.range r.length := by
      rw [List.range_eq_range']
      exact List.zipIdx_map_snd 0 r
    have h2 : ((r.zipIdx.filter fun q => p q.1).map (·.2)).Sublist (List.range r.length) := by
      rw [← h]
      exact List.filter_sublist.map _
    exact List.pairwise_lt_range.sublist h2
  · rw [who_mem, List.mem_map]
    constructor
    · rintro ⟨⟨d, j⟩, h, rfl⟩
      rw [List.mem_filter] at h
      exact ⟨d, List.mem_zipIdx_iff_getElem?.mp h.1, h.2⟩
    · rintro ⟨d, h, e⟩
      exact ⟨(d, i), List.mem_filter.mpr ⟨List.mem_zipIdx_iff_getElem?.mpr h, e⟩, rfl⟩
theorem who_rev (p : Deed → Bool) (r : List Deed) : whoL p r.reverse = (whoL p r).reverse.map fun i => r.length - 1 - i := by
  have lt : ∀ i ∈ whoL p r, i < r.length := fun i h => by
    obtain ⟨d, h, _⟩ := who_mem.mp h
    exact (List.getElem?_eq_some_iff.mp h).1
  refine pw_uniq' (who_up p _) ?_ fun i => ?_
  · rw [List.pairwise_map, List.pairwise_reverse]
    exact List.Pairwise.imp_of_mem (fun {a b} ha hb h => by have := lt a ha; have := lt b hb; omega) (who_up p r)
  · rw [who_mem, List.mem_map]
    constructor
    · rintro ⟨d, h, e⟩
      have hi := (List.getElem?_eq_some_iff.mp h).1
      rw [List.length_reverse] at hi
      rw [List.getElem?_reverse hi] at h
      exact ⟨r.length - 1 - i, List.mem_reverse.mpr (who_mem.mpr ⟨d, h, e⟩), by omega⟩
    · rintro ⟨j, h, rfl⟩
      obtain ⟨d, hd, e⟩ := who_mem.mp (List.mem_reverse.mp h)
      have hj := (List.getElem?_eq_some_iff.mp hd).1
      refine ⟨d, ?_, e⟩
      rw [List.getElem?_reverse (by omega), show r.length - 1 - (r.length - 1 - j) = j by omega]
      exact hd
theorem l_revNT (l : List Nat) : (pRev).sem [.tup (nD l)] = some (.tup (nD l.reverse)) := by
  unfold nD
  rw [List.map_reverse]
  rfl
theorem l_eqN (l : List Nat) : pEq.sem [.tup (nD l), .tup (nD l)] = some (.bl true) := by
  have h := (Dat.tup Dat.nat).l_eq (by decide) l l
  simp only [decide_true] at h
  exact h
theorem l_eqStr {a b : Str} (ha : PyData.strOk a = true) (hb : PyData.strOk b = true) : pEq.sem [.str a, .str b] = some (.bl (decide (a = b))) := by
  have i : DecidableEq Nm := fun x y => decidable_of_iff (x.s = y.s) ⟨fun h => by cases x; cases y; cases h; rfl, fun h => by rw [h]⟩
  have h := dNm.l_eq (by decide) ⟨a, ha⟩ ⟨b, hb⟩
  have e : decide ((⟨a, ha⟩ : Nm) = ⟨b, hb⟩) = decide (a = b) := by
    rw [decide_eq_decide]
    exact ⟨fun h => congrArg Nm.s h, fun h => by cases h; rfl⟩
  rw [e] at h
  exact h
theorem txC_ok (l : List Cl) : PyData.strOk (txC l) = true := by
  show ((l.map fun c => 97 + c.val).toArray).all (· < 0x110000) = true
  rw [List.all_toArray, List.all_eq_true]
  intro x hx
  obtain ⟨c, _, rfl⟩ := List.mem_map.mp hx
  rw [decide_eq_true_eq]
  omega
theorem l_neStr {z : Str} (h : PyData.strOk z = true) : pNe.sem [.str z, .str z] = some (.bl false) := by
  have i : DecidableEq Nm := fun x y => decidable_of_iff (x.s = y.s) ⟨fun h => by cases x; cases y; cases h; rfl, fun h => by rw [h]⟩
  have k := dNm.l_ne (by decide) ⟨z, h⟩ ⟨z, h⟩
  simp only [decide_true, Bool.not_true] at k
  exact k
def rdsP (c : Cl) (d : Deed) : Bool := decide (c ∈ rdC d)
def wrsP (c : Cl) (d : Deed) : Bool := decide (c ∈ wrC d)
local macro_rules | `(tactic| row_hasAny fx) => `(tactic| fail)
local macro_rules | `(tactic| row_hasAny iff) => `(tactic| fail)
local macro_rules | `(tactic| row_hasAny lf) => `(tactic| with_reducible first | exact l_add _ _ | exact l_sub _ _ | exact pTup2 _ _ | exact l_lst rfl | exact l_eqi _ _ | exact l_nei _ _ | exact l_lti _ _ | exact l_lei _ _ | exact l_gti _ _ | exact l_gei _ _ | exact l_lenT _ | exact l_lenL _ | exact l_lenS _ | exact l_tupleL _ | exact l_ix0 _ _ | exact l_ix1 _ _ _ | exact l_ix2 _ _ _ _ | exact l_neg _ | exact pTup0 | exact pTup1 _ | exact pTup3 _ _ _ | exact l_tup rfl | exact pDk_sem | exact pDt_sem)
local macro_rules | `(tactic| row_hasAny fn) => `(tactic| with_reducible assumption)
local macro_rules | `(tactic| row_hasAny ev1) => `(tactic| first | row_hasAny fx | (with_reducible change evE _ _ = _; with_reducible first | apply e_var | apply ce_call | exact e_ki | exact e_ks | exact e_kb | exact e_kn | apply e_pr | apply e_meth | apply ce_chain | apply ce_not | apply ce_bool | apply ce_ife) | (with_reducible change evEs _ _ = _; with_reducible first | exact es_nil | apply es_cons) | (with_reducible change gt _ _ = _; with_reducible first | exact g_z | apply g_s) | (with_reducible change List.set _ _ _ = _; with_reducible first | exact st_z | apply st_s) | (with_reducible change evAs _ _ = _; with_reducible first | exact as_nil | apply as_val | apply as_lent) | (with_reducible change fill _ _ _ = _; with_reducible first | exact fl_nil | apply fl_val | apply fl_lent) | (with_reducible change putB _ _ _ = _; with_reducible first | exact pb_nil | apply pb_val | apply pb_lent) | (with_reducible change Pr.sem _ _ = _; first | row_hasAny lf | row_hasAny fn) | (with_reducible change Fn.sem _ _ = _; row_hasAny fn) | (with_reducible change bnd _ _ _ = _; with_reducible first | apply bd_name | apply bd_tup | apply bd_lst | apply bd_wtp) | (with_reducible change List.length _ = _; with_reducible first | exact le_z | apply le_s) | (with_reducible change _ < List.length _; with_reducible first | exact lt_z | apply lt_s) | (with_reducible change evT _ _ = _; with_reducible first | apply ct_var | apply t_pr | apply ct_call | apply ct_not | apply ct_bool | apply ct_chain | apply ct_meth) | (with_reducible change evBT _ _ _ = _; with_reducible first | apply tb_one | apply tb_and | apply tb_or) | (with_reducible change tru _ = _; with_reducible first | exact tru_bl _ | exact tru_int _ | exact tru_tup _ | exact tru_lst _) | (with_reducible change Wp _ _ _; first | (with_reducible first | apply wp_asg | apply wp_own | apply wp_par | apply wp_setIt | apply wp_app | apply wp_ext | apply wp_rem | apply wp_upd | apply wp_expr | apply wp_frz | apply wp_pass | apply wp_ret | apply wp_nilT) | row_hasAny iff) | (with_reducible first | apply cb_one | apply cb_and | apply cb_or | exact ts_nil | apply ts_one | exact bd_nil | apply bd_cons | exact wi_nil | apply wi_cons | exact ps_nil | apply ps_cons | apply or_f | exact or_lt _ _ | exact or_le _ _ | exact l_isLst _ | exact l_isDk _ | exact l_seqT _ | exact l_seqL _) | row_hasAny lf | row_hasAny fn | with_reducible rfl)
local macro_rules | `(tactic| row_hasAny ev) => `(tactic| repeat row_hasAny ev1)
local macro_rules | `(tactic| row_hasAny lf) => `(tactic| with_reducible first | exact l_eD2 _ | exact l_eD0 _ | exact l_lstC _ | exact l_tupC _ | exact cl_inT _ _ | exact l_tupN _ | exact l_eRlen _ | exact l_revR _)
local macro_rules | `(tactic| row_hasAny fx) => `(tactic| with_reducible assumption)
theorem readers_sem (r : List Deed) (c : Cl) (h4 : ∀ d ∈ r, d.parts.length ≤ 400) (rl : r.length ≤ 1000) : f_readers.sem [eR r, .str (cl c)] = .ret (.tup (nD (whoL (rdsP c) r))) [] := by
  refine fn_wp (n := 4) (ls := []) ?_
  show Wp c_readers [eR r, .str (cl c), .non, .non] _
  unfold c_readers
  have k := ce_comp (P := iEnum) (cs := .cons (.var 0) .nil) (tg := .tup [(.name 2), (.name 3)]) (ifs := .cons (.pr pIn (.cons (.var 1) (.cons (.call f_reads (.val (.var 3) .nil)) .nil))) .nil) (elt := .var 2) (own := [2, 3]) (s := [eR r, .str (cl c), .non, .non]) (w := [eR r, .str (cl c), .non, .non]) (xs := r.zipIdx) (enc := fun p : Deed × Nat => .wtp [.int (p.2 : Nat), eD p.1]) (p := fun q => rdsP c q.1) (g := fun q => .int (q.2 : Nat))
    (es_cons (e_var rfl) es_nil) (enum_q r) (by rw [List.length_zipIdx]; omega) rfl (fun q hq => by
      have hd := List.mem_zipIdx_iff_getElem?.mp hq
      have h1 := reads_sem q.1 (h4 _ (List.mem_of_getElem? hd))
      refine ⟨[eR r, .str (cl c), .int (q.2 : Nat), eD q.1], rfl, rfl, ?_, fun _ => e_var rfl⟩
      unfold rdsP
      row_hasAny ev)
  have e : ((r.zipIdx.filter fun q => rdsP c q.1).map fun q => D.int (q.2 : Nat)) = nD (whoL (rdsP c) r) := by
    rw [← who_zip]
    unfold nD
    rw [List.map_map]
    rfl
  rw [e] at k
  exact wp_ret (e_pr (es_cons k es_nil) (l_tupN _)) ⟨rfl, rfl⟩
theorem writers_sem (r : List Deed) (c : Cl) (h4 : ∀ d ∈ r, d.parts.length ≤ 400) (rl : r.length ≤ 1000) : f_writers.sem [eR r, .str (cl c)] = .ret (.tup (nD (whoL (wrsP c) r))) [] := by
  refine fn_wp (n := 4) (ls := []) ?_
  show Wp c_writers [eR r, .str (cl c), .non, .non] _
  unfold c_writers
  have k := ce_comp (P := iEnum) (cs := .cons (.var 0) .nil) (tg := .tup [(.name 2), (.name 3)]) (ifs := .cons (.pr pIn (.cons (.var 1) (.cons (.call f_writes (.val (.var 3) .nil)) .nil))) .nil) (elt := .var 2) (own := [2, 3]) (s := [eR r, .str (cl c), .non, .non]) (w := [eR r, .str (cl c), .non, .non]) (xs := r.zipIdx) (enc := fun p : Deed × Nat => .wtp [.int (p.2 : Nat), eD p.1]) (p := fun q => wrsP c q.1) (g := fun q => .int (q.2 : Nat))
    (es_cons (e_var rfl) es_nil) (enum_q r) (by rw [List.length_zipIdx]; omega) rfl (fun q hq => by
      have hd := List.mem_zipIdx_iff_getElem?.mp hq
      have h1 := writes_semC q.1 (by have := h4 _ (List.mem_of_getElem? hd); omega)
      refine ⟨[eR r, .str (cl c), .int (q.2 : Nat), eD q.1], rfl, rfl, ?_, fun _ => e_var rfl⟩
      unfold wrsP
      row_hasAny ev)
  have e : ((r.zipIdx.filter fun q => wrsP c q.1).map fun q => D.int (q.2 : Nat)) = nD (whoL (wrsP c) r) := by
    rw [← who_zip]
    unfold nD
    rw [List.map_map]
    rfl
  rw [e] at k
  exact wp_ret (e_pr (es_cons k es_nil) (l_tupN _)) ⟨rfl, rfl⟩
def cellL (r : List Deed) : List Cl := r.flatMap fun d => rdC d ++ wrC d
theorem cells_of_sem (r : List Deed) (h4 : ∀ d ∈ r, d.parts.length ≤ 8) (rl : r.length ≤ 100) : f_cells_of.sem [eR r] = .ret (.tup (clD (upC (cellL r)))) [] := by
  refine fn_wp (n := 3) (ls := []) ?_
  show Wp c_cells_of [eR r, .non, .non] _
  unfold c_cells_of
  refine wp_own (s2 := [eR r, .lst (clD []), .non]) (e_pr es_nil (l_lst rfl)) rfl ?_
  refine wp_for (enc := eD) (xs := r) (fun a d => a ++ (rdC d ++ wrC d)) (fun n a s => a.length + 16 * n ≤ 16 * r.length ∧ ∃ x, s = [eR r, .lst (clD a), x]) [] (es_cons (e_var rfl) es_nil) rfl ⟨by simp, _, rfl⟩ ?_ ?_
  · rintro n a d s hd ⟨ha, x, rfl⟩
    have d4 := h4 d hd
    have h1 := reads_sem d (by omega)
    have h2 := writes_semC d (by omega)
    have wl : (wrC d).length ≤ 8 := by unfold wrC; rw [List.length_map]; exact d4
    have rl8 : (rdC d).length ≤ 8 := upC_len _
    have h3 : pAdd.sem [.tup (clD (rdC d)), .tup (clD (wrC d))] = some (.tup (clD (rdC d ++ wrC d))) := by
      show (if (clD (rdC d)).length + (clD (wrC d)).length ≤ sizeLine then some (D.tup (clD (rdC d) ++ clD (wrC d))) else none) = _
      unfold clD
      rw [sizeLine_eq, List.length_map, List.length_map, if_pos (by omega), List.map_append]
    have h5 := l_extC a (rdC d ++ wrC d) (by rw [List.length_append]; omega)
    refine ⟨[eR r, .lst (clD a), eD d], rfl, ?_⟩
    unfold b_cells_of_1
    row_hasAny ev
    refine turn_nil ⟨?_, _, rfl⟩
    rw [List.length_append, List.length_append]
    omega
  · rintro s ⟨ha, x, rfl⟩
    have e : ∀ (l : List Deed) (a : List Cl), l.foldl (fun a d => a ++ (rdC d ++ wrC d)) a = a ++ cellL l := by
      intro l
      induction l with
      | nil => intro a; simp [cellL]
      | cons d l ih =>
        intro a
        rw [List.foldl_cons, ih, List.append_assoc]
        rfl
    rw [e, List.nil_append] at ha ⊢
    have h1 := sortSet_cl (cellL r) (by omega)
    row_hasAny ev
    exact ⟨rfl, rfl⟩
theorem number_of_sem {r : List Deed} (nd : (r.map (·.name)).Nodup) (hok : ∀ d ∈ r, PyData.strOk d.name = true) {i : Nat} {d : Deed} (hi : r[i]? = some d) : f_number_of.sem [eR r, .str d.name] = .ret (.int (i : Nat)) [] := by
  have hm : d ∈ r := List.mem_of_getElem? hi
  refine fn_wp (n := 4) (ls := []) ?_
  show Wp c_number_of [eR r, .str d.name, .non, .non] _
  unfold c_number_of
  refine wp_forR (enc := fun p : Deed × Nat => .wtp [.int (p.2 : Nat), eD p.1]) (xs := r.zipIdx) (fun l s => ∃ (pre : List (Deed × Nat)) (a b : D), pre ++ l = r.zipIdx ∧ (∀ p ∈ pre, p.2 ≠ i) ∧ s = [eR r, .str d.name, a, b])
    (es_cons (e_var rfl) es_nil) (enum_q r) ⟨[], _, _, rfl, (fun p hp => by cases hp), rfl⟩ ?_ ?_
  · rintro p l s ⟨pre, a, b, hp, hf, rfl⟩
    have hj : r[p.2]? = some p.1 := List.mem_zipIdx_iff_getElem?.mp (by rw [← hp]; simp)
    have hm2 : p.1 ∈ r := List.mem_of_getElem? hj
    have h1 := l_eqStr (hok _ hm2) (hok _ hm)
    have hq : p.1.name = d.name ↔ p.2 = i := by
      constructor
      · intro e
        obtain ⟨h3, h4⟩ := List.getElem?_eq_some_iff.mp hj
        obtain ⟨h5, h6⟩ := List.getElem?_eq_some_iff.mp hi
        have g1 : (r.map (·.name))[p.2]? = some d.name := by rw [List.getElem?_map, hj, ← e]; rfl
        have g2 : (r.map (·.name))[i]? = some d.name := by rw [List.getElem?_map, hi]; rfl
        exact (List.getElem?_inj (by rw [List.length_map]; exact h3) nd).mp (g1.trans g2.symm)
      · intro e
        rw [e, hi] at hj
        rw [Option.some.inj hj]
    refine ⟨[eR r, .str d.name, .int (p.2 : Nat), eD p.1], rfl, ?_⟩
    unfold b_number_of_1
    refine wp_iff (s1 := [eR r, .str d.name, .int (p.2 : Nat), eD p.1]) (t := decide (p.1.name = d.name)) (by row_hasAny ev) (fun z => ?_) (fun z => ?_)
    · have z := hq.mp (of_decide_eq_true z)
      rw [z]
      exact wp_ret (e_var rfl) ⟨rfl, rfl⟩
    · have z : ¬ p.2 = i := fun e => of_decide_eq_false z (hq.mpr e)
      refine wp_nilT (turn_nil ⟨pre ++ [p], _, _, by rw [List.append_assoc]; exact hp, fun x hx => ?_, rfl⟩)
      rcases List.mem_append.mp hx with hx | hx
      · exact hf x hx
      · rw [List.mem_singleton.mp hx]; exact z
  · rintro s ⟨pre, a, b, hp, hf, rfl⟩
    rw [List.append_nil] at hp
    exact absurd rfl (hf (d, i) (by rw [hp]; exact List.mem_zipIdx_iff_getElem?.mpr hi))
end T
end
section
set_option maxRecDepth 100000
namespace T
open PySem G
theorem worth_semB (f : Int × Terms) (kvs : Terms) (h : f.2.length < 1000) (hm : ∀ p ∈ f.2, mulB p.2 (lk0 p.1 kvs) = true) : f_worth_of.sem [encF f, encK kvs] = .ret (.int (worthV f fun c => lk0 c kvs)) [] := by
  obtain ⟨s', e1, x, y, e2⟩ := comp_fold (tg := .tup [.name 2, .name 3]) (own := [2, 3]) (ifs := fun s2 => evTs .nil s2)
    (elt := fun s2 => evE (.pr pMul (.cons (.var 3) (.cons (.meth mGet (.var 1) (.cons (.var 2) (.cons (.pr (kPr (.int 0)) .nil) .nil))) .nil))) s2) encP (fun (a : Unit) (_ : Str × Int) => a) (fun _ p => [.int (p.2 * lk0 p.1 kvs)]) (fun _ s => ∃ x y, s = [encF f, encK kvs, x, y])
    f.2 () [encF f, encK kvs, .non, .non] [] (fun _ p s hp ⟨x, y, hs⟩ => by
      subst hs
      refine ⟨[encF f, encK kvs, .str p.1, .int p.2], rfl, .inl ⟨[encF f, encK kvs, .str p.1, .int p.2], [encF f, encK kvs, .str p.1, .int p.2], .int (p.2 * lk0 p.1 kvs), rfl, ?_, rfl, _, _, rfl⟩⟩
      exact e_pr (es_cons (e_var rfl) (es_cons (e_meth (e_var rfl) rfl (es_cons (e_var rfl) (es_cons (e_ki (i := 0)) es_nil)) (get_enc p.1 kvs 0)) es_nil)) (mul_b (hm p hp))) ⟨_, _, rfl⟩ (by simp; omega)
  subst e2
  have ec := e_comp (P := iSeq) (es_cons (e_pr (P := pIx) (es_cons (e_var (i := 0) (s := [encF f, encK kvs, .non, .non]) rfl) (es_cons (e_ki (i := 1)) es_nil)) (ix1 _ _)) es_nil) (seq_encT f.2) e1
  rw [List.nil_append, out_map] at ec
  have hmap : (f.2.map fun p => D.int (p.2 * lk0 p.1 kvs)) = (f.2.map fun p => p.2 * lk0 p.1 kvs).map .int := by rw [List.map_map]; rfl
  rw [hmap] at ec
  have hs : sumS (.lst ((f.2.map fun p => p.2 * lk0 p.1 kvs).map .int)) = some (.int (f.2.map fun p => p.2 * lk0 p.1 kvs).sum) := by
    show (intsOf _).map (fun ns => D.int ns.sum) = _
    rw [ints_enc]
    rfl
  exact fn_ret (n := 4) (ls := []) (s := rest [encF f, encK kvs, .non, .non] [encF f, encK kvs, x, y] [2, 3]) (ss_ret (s_ret (e_pr (es_cons (e_pr (es_cons (e_var rfl) (es_cons (e_ki (i := 0)) es_nil)) (ix0 _ _)) (es_cons (e_pr (P := pSum) (es_cons ec es_nil) hs) es_nil)) (add_int _ _)))) rfl
theorem worth_sem (f : Int × Terms) (kvs : Terms) (h : f.2.length < 1000) (hm : ∀ p ∈ f.2, p.2.natAbs < 18446744073709551616) : f_worth_of.sem [encF f, encK kvs] = .ret (.int (worthV f fun c => lk0 c kvs)) [] :=
  worth_semB f kvs h fun p hp => mulB_l (hm p hp)
end T
end
section
set_option maxRecDepth 100000
namespace T
open PySem G
/-- a table of worths: what it has for each cell -/
theorem worth_semF (f : Fm) (kvs : Terms) (w : Cl → Int) (hw : ∀ c, lk0 (cl c) kvs = w c) (hm : ∀ c, (f.co c).natAbs < 18446744073709551616) : f_worth_of.sem [eF f, encK kvs] = .ret (.int (f.worth w)) [] := by
  have h1 := f.len
  have h := worth_sem f.raw kvs (by omega) (fun p hp => by
    obtain ⟨c, rfl, _⟩ := mem_terms.mp hp
    exact hm c)
  rw [worth_sg abc_nd f.nrm.nd f.ks, sg_s8] at h
  have e : (s8 fun c => lk0 (cl c) kvs * lk0 (cl c) f.raw.2) = s8 fun c => w c * f.co c := by
    congr 1
    funext c
    rw [hw, f.lk]
  rw [e] at h
  exact h
end T
end
section
set_option maxRecDepth 100000
namespace T
open PySem G
theorem l_isDkK (kvs : Terms) : isDk (encK kvs) = true := rfl
local macro_rules | `(tactic| row_hasAny fx) => `(tactic| fail)
local macro_rules | `(tactic| row_hasAny iff) => `(tactic| fail)
local macro_rules | `(tactic| row_hasAny lf) => `(tactic| with_reducible first | exact l_add _ _ | exact l_sub _ _ | exact pTup2 _ _ | exact l_lst rfl | exact l_eqi _ _ | exact l_nei _ _ | exact l_lti _ _ | exact l_lei _ _ | exact l_gti _ _ | exact l_gei _ _ | exact l_lenT _ | exact l_lenL _ | exact l_lenS _ | exact l_tupleL _ | exact l_ix0 _ _ | exact l_ix1 _ _ _ | exact l_ix2 _ _ _ _ | exact l_neg _ | exact pTup0 | exact pTup1 _ | exact pTup3 _ _ _ | exact l_tup rfl | exact pDk_sem | exact pDt_sem)
local macro_rules | `(tactic| row_hasAny fn) => `(tactic| with_reducible assumption)
local macro_rules | `(tactic| row_hasAny ev1) => `(tactic| first | row_hasAny fx | (with_reducible change evE _ _ = _; with_reducible first | apply e_var | apply ce_call | exact e_ki | exact e_ks | exact e_kb | exact e_kn | apply e_pr | apply e_meth | apply ce_chain | apply ce_not | apply ce_bool | apply ce_ife) | (with_reducible change evEs _ _ = _; with_reducible first | exact es_nil | apply es_cons) | (with_reducible change gt _ _ = _; with_reducible first | exact g_z | apply g_s) | (with_reducible change List.set _ _ _ = _; with_reducible first | exact st_z | apply st_s) | (with_reducible change evAs _ _ = _; with_reducible first | exact as_nil | apply as_val | apply as_lent) | (with_reducible change fill _ _ _ = _; with_reducible first | exact fl_nil | apply fl_val | apply fl_lent) | (with_reducible change putB _ _ _ = _; with_reducible first | exact pb_nil | apply pb_val | apply pb_lent) | (with_reducible change Pr.sem _ _ = _; first | row_hasAny lf | row_hasAny fn) | (with_reducible change Fn.sem _ _ = _; row_hasAny fn) | (with_reducible change bnd _ _ _ = _; with_reducible first | apply bd_name | apply bd_tup | apply bd_lst | apply bd_wtp) | (with_reducible change List.length _ = _; with_reducible first | exact le_z | apply le_s) | (with_reducible change _ < List.length _; with_reducible first | exact lt_z | apply lt_s) | (with_reducible change evT _ _ = _; with_reducible first | apply ct_var | apply t_pr | apply ct_call | apply ct_not | apply ct_bool | apply ct_chain | apply ct_meth) | (with_reducible change evBT _ _ _ = _; with_reducible first | apply tb_one | apply tb_and | apply tb_or) | (with_reducible change tru _ = _; with_reducible first | exact tru_bl _ | exact tru_int _ | exact tru_tup _ | exact tru_lst _) | (with_reducible change Wp _ _ _; first | (with_reducible first | apply wp_asg | apply wp_own | apply wp_par | apply wp_setIt | apply wp_app | apply wp_ext | apply wp_rem | apply wp_upd | apply wp_expr | apply wp_frz | apply wp_pass | apply wp_ret | apply wp_nilT) | row_hasAny iff) | (with_reducible first | apply cb_one | apply cb_and | apply cb_or | exact ts_nil | apply ts_one | exact bd_nil | apply bd_cons | exact wi_nil | apply wi_cons | exact ps_nil | apply ps_cons | apply or_f | exact or_lt _ _ | exact or_le _ _ | exact l_isLst _ | exact l_isDk _ | exact l_seqT _ | exact l_seqL _) | row_hasAny lf | row_hasAny fn | with_reducible rfl)
local macro_rules | `(tactic| row_hasAny ev) => `(tactic| repeat row_hasAny ev1)
local macro_rules | `(tactic| row_hasAny lf) => `(tactic| with_reducible first | exact l_eD2 _ | exact l_dictS _ | exact l_isDkK _)
/-- a table of worths, as a store -/
theorem store_of_sem (W : Terms) (hl : W.length < 64) (nd : ND W) (ks : KS (chars abc) W) : f_store_of.sem [encK W] = .ret (eS fun c => lk0 (cl c) W) [] := by
  have hk : ∀ c ∈ sortStr (W.map (·.1)), lk c W = some (lk0 c W) := fun c hc => by
    have hm : c ∈ W.map (·.1) := (List.mergeSort_perm _ _).mem_iff.mp hc
    obtain ⟨v, hv⟩ := lk_mem hm
    unfold lk0
    rw [hv]
    rfl
  have hlen : (sortStr (W.map (·.1))).length = W.length := by
    unfold sortStr
    rw [List.length_mergeSort, List.length_map]
  have ec := ce_comp (P := iSeq) (cs := .cons (.pr pSorted (.cons (.var 0) .nil)) .nil) (tg := .name 1) (ifs := .cons (.pr pNe (.cons (.pr pIx (.cons (.var 0) (.cons (.var 1) .nil))) (.cons (.pr (kPr (.int 0)) .nil) .nil))) .nil) (elt := .pr pTup (.cons (.var 1) (.cons (.pr pIx (.cons (.var 0) (.cons (.var 1) .nil))) .nil))) (own := [1]) (s := [encK W, .non]) (w := [encK W, .non]) (xs := sortStr (W.map (·.1))) (enc := D.str) (p := fun c => !decide (lk0 c W = 0)) (g := fun c => encP (c, lk0 c W))
    (es_cons (e_pr (es_cons (e_var rfl) es_nil) (sort_enc hl)) es_nil) rfl (by rw [hlen]; omega) rfl (fun c hc => by
      have h1 : pIx.sem [encK W, .str c] = some (.int (lk0 c W)) := ix_enc (hk c hc)
      refine ⟨[encK W, .str c], rfl, rfl, ?_, fun _ => ?_⟩
      · row_hasAny ev
      · row_hasAny ev
        exact pTup2 _ _)
  have e : ((sortStr (W.map (·.1))).filter fun c => !decide (lk0 c W = 0)).map (fun c => encP (c, lk0 c W)) = (termsOf W).map encP := by
    unfold termsOf
    generalize sortStr (W.map (·.1)) = l
    induction l with
    | nil => rfl
    | cons c r ih =>
      rw [List.filter_cons, List.filterMap_cons]
      by_cases z : lk0 c W = 0
      · rw [if_pos z]
        simp only [z, decide_true, Bool.not_true, Bool.false_eq_true, if_false]
        exact ih
      · rw [if_neg z]
        simp only [z, decide_false, Bool.not_false, if_true, List.map_cons]
        rw [ih]
  rw [e] at ec
  have e2 : termsOf W = terms fun c => lk0 (cl c) W := by
    rw [terms_of (termsOf_nrm nd) (termsOf_ks ks)]
    congr 1
    funext c
    exact termsOf_lk nd _
  rw [e2] at ec
  exact fn_ret (n := 2) (ls := []) (s := [encK W, .non]) (ss_ret (s_ret (e_pr (P := pTuple) (es_cons ec es_nil) rfl))) rfl
theorem worth_semFB (f : Fm) (kvs : Terms) (w : Cl → Int) {a b : Nat} (hw : ∀ c, lk0 (cl c) kvs = w c) (hf : f.sm a) (hb : ∀ c, sm b (w c)) (hab : a + b < 1000000) : f_worth_of.sem [eF f, encK kvs] = .ret (.int (f.worth w)) [] := by
  have h1 := f.len
  have h := worth_semB f.raw kvs (by omega) (fun p hp => by
    obtain ⟨c, rfl, _⟩ := mem_terms.mp hp
    show mulB (f.co c) (lk0 (cl c) kvs) = true
    rw [hw]
    exact mulB_sm (hf.2 c) (hb c) hab)
  rw [worth_sg abc_nd f.nrm.nd f.ks, sg_s8] at h
  have e : (s8 fun c => lk0 (cl c) kvs * lk0 (cl c) f.raw.2) = s8 fun c => w c * f.co c := by
    congr 1
    funext c
    rw [hw, f.lk]
  rw [e] at h
  exact h
def resT (w : Cl → Int) (d : Deed) : Terms := d.parts.map fun p => (cl p.1, p.2.worth w)
theorem resT_nd {k : Nat} {d : Deed} (h : DOk k d) (w : Cl → Int) : ND (resT w d) := by
  have h2 := h.nd
  unfold resT
  show ((d.parts.map fun p => (cl p.1, p.2.worth w)).map (·.1)).Nodup
  rw [List.map_map]
  rw [List.Nodup, List.pairwise_map] at h2 ⊢
  exact h2.imp fun {a b} hab e => hab (cl_inj e)
theorem resT_ks (w : Cl → Int) (d : Deed) : KS (chars abc) (resT w d) := fun p hp => by
  obtain ⟨q, _, rfl⟩ := List.mem_map.mp hp
  exact cl_abc _
theorem resT_lk (w : Cl → Int) (c : Cl) : ∀ l : List (Cl × Fm), lk (cl c) (l.map fun p => (cl p.1, p.2.worth w)) = (lkF c l).map fun f => f.worth w
  | [] => rfl
  | p :: r => by
    rw [List.map_cons, lk_cons, resT_lk w c r]
    show (if cl p.1 = cl c then some (p.2.worth w) else _) = Option.map _ (if p.1 = c then some p.2 else lkF c r)
    by_cases e : p.1 = c
    · rw [if_pos e, if_pos (by rw [e])]; rfl
    · rw [if_neg e, if_neg fun z => e (cl_inj z)]
theorem results_sem (w : Cl → Int) (d : Deed) {a b : Nat} (hd : DOk a d) (hw : ∀ c, sm b (w c)) (hab : a + b < 1000000) : f_results.sem [eS w, eD d] = .ret (encK (resT w d)) [] := by
  have hl := hd.len
  refine fn_wp (n := 5) (ls := []) ?_
  show Wp c_results [eS w, eD d, .non, .non, .non] _
  unfold c_results
  refine wp_asg (s2 := [eS w, eD d, encK (terms w), .non, .non]) (e_pr (es_cons (e_var rfl) es_nil) (l_dictS w)) rfl ?_
  have ec := ce_compA (P := iSeq) (cs := .cons (.pr pIx (.cons (.var 1) (.cons (.pr (kPr (.int 2)) .nil) .nil))) .nil) (tg := .tup [(.name 3), (.name 4)]) (elt := .pr pTup (.cons (.var 3) (.cons (.call f_worth_of (.val (.var 4) (.val (.var 2) .nil))) .nil))) (own := [3, 4]) (s := [eS w, eD d, encK (terms w), .non, .non]) (w := [eS w, eD d, encK (terms w), .non, .non]) (xs := d.parts) (enc := eP) (g := fun p => encP (cl p.1, p.2.worth w))
    (es_cons (e_pr (es_cons (e_var rfl) (es_cons e_ki es_nil)) (l_eD2 d)) es_nil) rfl (by omega) rfl (fun p hp => by
      have h1 := worth_semFB p.2 (terms w) w (terms_lk w) (hd.sm p hp) hw hab
      refine ⟨[eS w, eD d, encK (terms w), .str (cl p.1), eF p.2], rfl, rfl, ?_⟩
      row_hasAny ev
      exact pTup2 _ _)
  have e : (d.parts.map fun p => encP (cl p.1, p.2.worth w)) = (resT w d).map encP := by unfold resT; rw [List.map_map]; rfl
  rw [e] at ec
  refine wp_ret (e_pr (es_cons ec es_nil) (dict_lst _)) ⟨?_, rfl⟩
  rw [mergeT_new _ _ (by rw [List.nil_append]; exact resT_nd hd w), List.nil_append]
theorem done_sem (w : Cl → Int) (d : Deed) {a b : Nat} (hd : DOk a d) (hw : ∀ c, sm b (w c)) (hab : a + b < 1000000) : f_done.sem [eS w, eD d] = .ret (eS (doneW w d)) [] := by
  have hl := hd.len
  have h1 := results_sem w d hd hw hab
  have tl := terms_len w
  have l2 : (resT w d).length = d.parts.length := by unfold resT; rw [List.length_map]
  have h2 : updTo (encK (terms w)) (encK (resT w d)) = some (encK (mergeT (terms w) (resT w d))) := by
    show (if ((terms w).map kvP).length + ((resT w d).map kvP).length ≤ sizeLine then some (D.dk (mergeD ((terms w).map kvP) ((resT w d).map kvP))) else none) = _
    rw [sizeLine_eq, List.length_map, List.length_map, if_pos (by omega), merge_enc]
    rfl
  have nd : ND (mergeT (terms w) (resT w d)) := mergeT_nd _ (terms_nrm w).nd
  have l3 := mergeT_len (resT w d) (terms w)
  have h3 := store_of_sem (mergeT (terms w) (resT w d)) (by omega) nd (mergeT_ks (terms_ks w) (resT_ks w d))
  have e : (fun c => lk0 (cl c) (mergeT (terms w) (resT w d))) = doneW w d := by
    funext c
    rw [mergeT_lk _ _ _ (resT_nd hd w)]
    have hlk := resT_lk w c d.parts
    unfold doneW Deed.at
    cases e : lkF c d.parts with
    | none =>
      rw [e] at hlk
      rw [if_neg, terms_lk]
      intro z
      obtain ⟨v, hv⟩ := lk_mem z
      have hlk : lk (cl c) (resT w d) = none := hlk
      rw [hlk] at hv
      cases hv
    | some f =>
      rw [e] at hlk
      have hlk : lk (cl c) (resT w d) = some (f.worth w) := hlk
      rw [if_pos (List.mem_map_of_mem (f := fun p : Str × Int => p.1) (lk_mem2 hlk))]
      unfold lk0
      rw [hlk]
      rfl
  rw [e] at h3
  refine fn_wp (n := 3) (ls := []) ?_
  show Wp c_done [eS w, eD d, .non] _
  unfold c_done
  row_hasAny ev
  exact ⟨rfl, rfl⟩
theorem doneW_sm {a b : Nat} {w : Cl → Int} {d : Deed} (hd : DOk a d) (hw : ∀ c, sm b (w c)) (c : Cl) : sm (a + b + 4) (doneW w d c) := by
  unfold doneW
  cases e : d.at c with
  | none => exact sm_le (hw c) (by omega)
  | some f => exact Fm.sm_worth (hd.sm _ (lkF_mem e)) hw
end T
end
section
set_option maxRecDepth 100000
namespace T
open PySem G
local macro_rules | `(tactic| row_hasAny fx) => `(tactic| fail)
local macro_rules | `(tactic| row_hasAny iff) => `(tactic| fail)
local macro_rules | `(tactic| row_hasAny lf) => `(tactic| with_reducible first | exact l_add _ _ | exact l_sub _ _ | exact pTup2 _ _ | exact l_lst rfl | exact l_eqi _ _ | exact l_nei _ _ | exact l_lti _ _ | exact l_lei _ _ | exact l_gti _ _ | exact l_gei _ _ | exact l_lenT _ | exact l_lenL _ | exact l_lenS _ | exact l_tupleL _ | exact l_ix0 _ _ | exact l_ix1 _ _ _ | exact l_ix2 _ _ _ _ | exact l_neg _ | exact pTup0 | exact pTup1 _ | exact pTup3 _ _ _ | exact l_tup rfl | exact pDk_sem | exact pDt_sem)
local macro_rules | `(tactic| row_hasAny fn) => `(tactic| with_reducible assumption)
local macro_rules | `(tactic| row_hasAny ev1) => `(tactic| first | row_hasAny fx | (with_reducible change evE _ _ = _; with_reducible first | apply e_var | apply ce_call | exact e_ki | exact e_ks | exact e_kb | exact e_kn | apply e_pr | apply e_meth | apply ce_chain | apply ce_not | apply ce_bool | apply ce_ife) | (with_reducible change evEs _ _ = _; with_reducible first | exact es_nil | apply es_cons) | (with_reducible change gt _ _ = _; with_reducible first | exact g_z | apply g_s) | (with_reducible change List.set _ _ _ = _; with_reducible first | exact st_z | apply st_s) | (with_reducible change evAs _ _ = _; with_reducible first | exact as_nil | apply as_val | apply as_lent) | (with_reducible change fill _ _ _ = _; with_reducible first | exact fl_nil | apply fl_val | apply fl_lent) | (with_reducible change putB _ _ _ = _; with_reducible first | exact pb_nil | apply pb_val | apply pb_lent) | (with_reducible change Pr.sem _ _ = _; first | row_hasAny lf | row_hasAny fn) | (with_reducible change Fn.sem _ _ = _; row_hasAny fn) | (with_reducible change bnd _ _ _ = _; with_reducible first | apply bd_name | apply bd_tup | apply bd_lst | apply bd_wtp) | (with_reducible change List.length _ = _; with_reducible first | exact le_z | apply le_s) | (with_reducible change _ < List.length _; with_reducible first | exact lt_z | apply lt_s) | (with_reducible change evT _ _ = _; with_reducible first | apply ct_var | apply t_pr | apply ct_call | apply ct_not | apply ct_bool | apply ct_chain | apply ct_meth) | (with_reducible change evBT _ _ _ = _; with_reducible first | apply tb_one | apply tb_and | apply tb_or) | (with_reducible change tru _ = _; with_reducible first | exact tru_bl _ | exact tru_int _ | exact tru_tup _ | exact tru_lst _) | (with_reducible change Wp _ _ _; first | (with_reducible first | apply wp_asg | apply wp_own | apply wp_par | apply wp_setIt | apply wp_app | apply wp_ext | apply wp_rem | apply wp_upd | apply wp_expr | apply wp_frz | apply wp_pass | apply wp_ret | apply wp_nilT) | row_hasAny iff) | (with_reducible first | apply cb_one | apply cb_and | apply cb_or | exact ts_nil | apply ts_one | exact bd_nil | apply bd_cons | exact wi_nil | apply wi_cons | exact ps_nil | apply ps_cons | apply or_f | exact or_lt _ _ | exact or_le _ _ | exact l_isLst _ | exact l_isDk _ | exact l_seqT _ | exact l_seqL _) | row_hasAny lf | row_hasAny fn | with_reducible rfl)
local macro_rules | `(tactic| row_hasAny ev) => `(tactic| repeat row_hasAny ev1)
theorem worth_at_sem (w : Cl → Int) (c : Cl) : f_worth_at.sem [eS w, .str (cl c)] = .ret (.int (w c)) [] := by
  have h1 := get_enc (cl c) (terms w) 0
  have h2 : (lk (cl c) (terms w)).getD 0 = w c := terms_lk w c
  rw [h2] at h1
  refine fn_wp (n := 2) (ls := []) ?_
  show Wp c_worth_at [eS w, .str (cl c)] _
  refine wp_ret (e_meth (e_pr (es_cons (e_var rfl) es_nil) (l_dictS w)) rfl (es_cons (e_var rfl) (es_cons e_ki es_nil)) h1) ⟨rfl, rfl⟩
end T
end
section
set_option maxRecDepth 100000
set_option maxHeartbeats 0
namespace T
open PySem G
local macro_rules | `(tactic| row_hasAny fx) => `(tactic| fail)
local macro_rules | `(tactic| row_hasAny iff) => `(tactic| fail)
local macro_rules | `(tactic| row_hasAny lf) => `(tactic| with_reducible first | exact l_add _ _ | exact l_sub _ _ | exact pTup2 _ _ | exact l_lst rfl | exact l_eqi _ _ | exact l_nei _ _ | exact l_lti _ _ | exact l_lei _ _ | exact l_gti _ _ | exact l_gei _ _ | exact l_lenT _ | exact l_lenL _ | exact l_lenS _ | exact l_tupleL _ | exact l_ix0 _ _ | exact l_ix1 _ _ _ | exact l_ix2 _ _ _ _ | exact l_neg _ | exact pTup0 | exact pTup1 _ | exact pTup3 _ _ _ | exact l_tup rfl | exact pDk_sem | exact pDt_sem)
local macro_rules | `(tactic| row_hasAny fn) => `(tactic| with_reducible assumption)
local macro_rules | `(tactic| row_hasAny ev1) => `(tactic| first | row_hasAny fx | (with_reducible change evE _ _ = _; with_reducible first | apply e_var | apply ce_call | exact e_ki | exact e_ks | exact e_kb | exact e_kn | apply e_pr | apply e_meth | apply ce_chain | apply ce_not | apply ce_bool | apply ce_ife) | (with_reducible change evEs _ _ = _; with_reducible first | exact es_nil | apply es_cons) | (with_reducible change gt _ _ = _; with_reducible first | exact g_z | apply g_s) | (with_reducible change List.set _ _ _ = _; with_reducible first | exact st_z | apply st_s) | (with_reducible change evAs _ _ = _; with_reducible first | exact as_nil | apply as_val | apply as_lent) | (with_reducible change fill _ _ _ = _; with_reducible first | exact fl_nil | apply fl_val | apply fl_lent) | (with_reducible change putB _ _ _ = _; with_reducible first | exact pb_nil | apply pb_val | apply pb_lent) | (with_reducible change Pr.sem _ _ = _; first | row_hasAny lf | row_hasAny fn) | (with_reducible change Fn.sem _ _ = _; row_hasAny fn) | (with_reducible change bnd _ _ _ = _; with_reducible first | apply bd_name | apply bd_tup | apply bd_lst | apply bd_wtp) | (with_reducible change List.length _ = _; with_reducible first | exact le_z | apply le_s) | (with_reducible change _ < List.length _; with_reducible first | exact lt_z | apply lt_s) | (with_reducible change evT _ _ = _; with_reducible first | apply ct_var | apply t_pr | apply ct_call | apply ct_not | apply ct_bool | apply ct_chain | apply ct_meth) | (with_reducible change evBT _ _ _ = _; with_reducible first | apply tb_one | apply tb_and | apply tb_or) | (with_reducible change tru _ = _; with_reducible first | exact tru_bl _ | exact tru_int _ | exact tru_tup _ | exact tru_lst _) | (with_reducible change Wp _ _ _; first | (with_reducible first | apply wp_asg | apply wp_own | apply wp_par | apply wp_setIt | apply wp_app | apply wp_ext | apply wp_rem | apply wp_upd | apply wp_expr | apply wp_frz | apply wp_pass | apply wp_ret | apply wp_nilT) | row_hasAny iff) | (with_reducible first | apply cb_one | apply cb_and | apply cb_or | exact ts_nil | apply ts_one | exact bd_nil | apply bd_cons | exact wi_nil | apply wi_cons | exact ps_nil | apply ps_cons | apply or_f | exact or_lt _ _ | exact or_le _ _ | exact l_isLst _ | exact l_isDk _ | exact l_seqT _ | exact l_seqL _) | row_hasAny lf | row_hasAny fn | with_reducible rfl)
local macro_rules | `(tactic| row_hasAny ev) => `(tactic| repeat row_hasAny ev1)
local macro_rules | `(tactic| row_hasAny lf) => `(tactic| with_reducible first | exact l_eD2 _ | exact l_eD0 _ | exact l_lstC _ | exact l_tupC _ | exact cl_inT _ _ | exact l_tupN _ | exact l_eRlen _ | exact l_revR _ | exact l_neN _ | exact l_eqN _ | exact q_neI _)
local macro_rules | `(tactic| row_hasAny fx) => `(tactic| with_reducible assumption)
local macro_rules | `(tactic| row_hasAny iff) => `(tactic| with_reducible apply wp_no)
theorem law_turned_sem (r : List Deed) (l : List Nat) (hl : ∀ i ∈ l, i < r.length) (h2 : l.length ≤ 1000) : f_law_turned.sem [eR r, .tup (nD l)] = .ret (.tup (nD (l.reverse.map fun i => r.length - 1 - i))) [] := by
  refine fn_wp (n := 3) (ls := []) ?_
  show Wp c_law_turned [eR r, .tup (nD l), .non] _
  unfold c_law_turned
  have k := ce_compA (P := iSeq) (cs := .cons (.pr (pRev) (.cons (.var 1) .nil)) .nil) (tg := .name 2) (elt := .pr pSub (.cons (.pr pSub (.cons (.pr pLen (.cons (.var 0) .nil)) (.cons (.pr (kPr (.int 1)) .nil) .nil))) (.cons (.var 2) .nil))) (own := [2]) (s := [eR r, .tup (nD l), .non]) (w := [eR r, .tup (nD l), .non]) (xs := l.reverse) (enc := fun n : Nat => D.int (n : Nat)) (g := fun i : Nat => .int ((r.length - 1 - i : Nat) : Int))
    (es_cons (e_pr (es_cons (e_var rfl) es_nil) (l_revNT l)) es_nil) rfl (by rw [List.length_reverse]; omega) rfl (fun i hi => by
      have lt := hl i (List.mem_reverse.mp hi)
      refine ⟨[eR r, .tup (nD l), .int (i : Nat)], rfl, rfl, ?_⟩
      have e : (((r.length - 1 - i : Nat)) : Int) = (r.length : Nat) - 1 - (i : Nat) := by omega
      rw [e]
      exact e_pr (es_cons (e_pr (es_cons (e_pr (es_cons (e_var rfl) es_nil) (l_eRlen r)) (es_cons e_ki es_nil)) (l_sub _ _)) (es_cons (e_var rfl) es_nil)) (l_sub _ _))
  have e : (l.reverse.map fun i : Nat => D.int ((r.length - 1 - i : Nat) : Int)) = nD (l.reverse.map fun i => r.length - 1 - i) := by
    unfold nD
    rw [List.map_map]
    rfl
  rw [e] at k
  exact wp_ret (e_pr (es_cons k es_nil) (l_tupN _)) ⟨rfl, rfl⟩
theorem who_lt {p : Deed → Bool} {r : List Deed} : ∀ i ∈ whoL p r, i < r.length := fun i h => by
  obtain ⟨d, h, _⟩ := who_mem.mp h
  exact (List.getElem?_eq_some_iff.mp h).1
theorem law_is_right_sem (r : List Deed) (c : Cl) (h4 : ∀ d ∈ r, d.parts.length ≤ 400) (rl : r.length ≤ 1000) : f_law_is_right.sem [eR r, .str (cl c)] = .ret (.bl true) [] := by
  have g4 : ∀ d ∈ r.reverse, d.parts.length ≤ 400 := fun d hd => h4 d (List.mem_reverse.mp hd)
  have gl : r.reverse.length ≤ 1000 := by rw [List.length_reverse]; exact rl
  have k1 := readers_sem r c h4 rl
  have k2 := readers_sem r.reverse c g4 gl
  have k3 := writers_sem r c h4 rl
  have k4 := writers_sem r.reverse c g4 gl
  rw [who_rev] at k2 k4
  have k5 := law_turned_sem r (whoL (rdsP c) r) who_lt (by have := who_len (rdsP c) r; omega)
  have k6 := law_turned_sem r (whoL (wrsP c) r) who_lt (by have := who_len (wrsP c) r; omega)
  refine fn_wp (n := 4) (ls := []) ?_
  show Wp c_law_is_right [eR r, .str (cl c), .non, .non] _
  unfold c_law_is_right
  have c1 := ce_comp (P := iRng1) (cs := .cons (.pr pLen (.cons (.var 0) .nil)) .nil) (tg := .name 3) (ifs := .cons (.pr pIn (.cons (.var 1) (.cons (.call f_reads (.val (.pr pIx (.cons (.var 0) (.cons (.var 3) .nil))) .nil)) .nil))) .nil) (elt := .var 3) (own := [3]) (s := [eR r, .str (cl c), .non, .non]) (w := [eR r, .str (cl c), .non, .non]) (xs := List.range r.length) (enc := fun n : Nat => D.int (n : Nat)) (p := fun i => atP (rdsP c) r i) (g := fun i : Nat => .int (i : Nat))
    (es_cons (e_pr (es_cons (e_var rfl) es_nil) (l_eRlen r)) es_nil) (i_rng r.length (by omega)) (by rw [List.length_range]; omega) rfl (fun i hi => by
      have lt := List.mem_range.mp hi
      have hd := List.getElem?_eq_getElem lt
      have hm : r[i] ∈ r := List.getElem_mem lt
      generalize r[i] = d at hd hm
      have z1 := ix_R hd
      have z2 := reads_sem d (h4 d hm)
      have e : atP (rdsP c) r i = decide (c ∈ rdC d) := by unfold atP; rw [hd]; rfl
      refine ⟨[eR r, .str (cl c), .non, .int (i : Nat)], rfl, rfl, ?_, fun _ => e_var rfl⟩
      rw [e]
      row_hasAny ev)
  have c2 := ce_comp (P := iRng1) (cs := .cons (.pr pLen (.cons (.var 0) .nil)) .nil) (tg := .name 3) (ifs := .cons (.pr pIn (.cons (.var 1) (.cons (.call f_writes (.val (.pr pIx (.cons (.var 0) (.cons (.var 3) .nil))) .nil)) .nil))) .nil) (elt := .var 3) (own := [3]) (s := [eR r, .str (cl c), .tup (nD (whoL (rdsP c) r)), .non]) (w := [eR r, .str (cl c), .tup (nD (whoL (rdsP c) r)), .non]) (xs := List.range r.length) (enc := fun n : Nat => D.int (n : Nat)) (p := fun i => atP (wrsP c) r i) (g := fun i : Nat => .int (i : Nat))
    (es_cons (e_pr (es_cons (e_var rfl) es_nil) (l_eRlen r)) es_nil) (i_rng r.length (by omega)) (by rw [List.length_range]; omega) rfl (fun i hi => by
      have lt := List.mem_range.mp hi
      have hd := List.getElem?_eq_getElem lt
      have hm : r[i] ∈ r := List.getElem_mem lt
      generalize r[i] = d at hd hm
      have z1 := ix_R hd
      have z2 := writes_semC d (by have := h4 d hm; omega)
      have e : atP (wrsP c) r i = decide (c ∈ wrC d) := by unfold atP; rw [hd]; rfl
      refine ⟨[eR r, .str (cl c), .tup (nD (whoL (rdsP c) r)), .int (i : Nat)], rfl, rfl, ?_, fun _ => e_var rfl⟩
      rw [e]
      row_hasAny ev)
  refine wp_asg (s2 := [eR r, .str (cl c), .tup (nD (whoL (rdsP c) r)), .non]) (d := .tup (nD (whoL (rdsP c) r))) (e_pr (es_cons c1 es_nil) (l_tupN _)) rfl ?_
  refine wp_no (s1 := [eR r, .str (cl c), .tup (nD (whoL (rdsP c) r)), .non]) (t := false || false) (by row_hasAny ev) rfl (wp_nilT ?_)
  refine wp_asg (s2 := [eR r, .str (cl c), .tup (nD (whoL (wrsP c) r)), .non]) (d := .tup (nD (whoL (wrsP c) r))) (e_pr (es_cons c2 es_nil) (l_tupN _)) rfl ?_
  refine wp_ret (s1 := [eR r, .str (cl c), .tup (nD (whoL (wrsP c) r)), .non]) (d := .bl (true && true)) (by row_hasAny ev) ⟨rfl, rfl⟩
theorem law_keeps_sem (d : Deed) (w v : Cl → Int) (hd : DOk 7 d) (d4 : d.parts.length ≤ 400) (hw : ∀ c, sm 10 (w c)) (hv : ∀ c, sm 10 (v c)) (hr : ∀ c, c ∈ rdC d → w c = v c) : f_law_keeps.sem [eD d, eS w, eS v] = .ret (.bl true) [] := by
  have k1 := done_sem w d hd hw (by omega)
  have k2 := done_sem v d hd hv (by omega)
  have k3 := writes_semC d (by omega)
  refine fn_wp (n := 6) (ls := []) ?_
  show Wp c_law_keeps [eD d, eS w, eS v, .non, .non, .non] _
  unfold c_law_keeps
  refine wp_par (ds := [eS (doneW w d), eS (doneW v d)]) (s1 := [eD d, eS w, eS v, .non, .non, .non]) (s2 := [eD d, eS w, eS v, eS (doneW w d), eS (doneW v d), .non]) (by row_hasAny ev) rfl ?_
  refine wp_for (enc := fun c : Cl => D.str (cl c)) (xs := cls) (fun (a : Unit) _ => a) (fun _ _ s => ∃ x, s = [eD d, eS w, eS v, eS (doneW w d), eS (doneW v d), x]) () (es_cons e_ks es_nil) (by rw [← txC_cls]; exact seq_txC cls) ⟨_, rfl⟩ ?_ ?_
  · rintro n _ c s hc ⟨x, rfl⟩
    have z1 := worth_at_sem (doneW w d) c
    have z2 := worth_at_sem (doneW v d) c
    have z3 := worth_at_sem w c
    refine ⟨[eD d, eS w, eS v, eS (doneW w d), eS (doneW v d), .str (cl c)], rfl, ?_⟩
    unfold b_law_keeps_1
    refine wp_iff (s1 := [eD d, eS w, eS v, eS (doneW w d), eS (doneW v d), .str (cl c)]) (t := decide (c ∈ wrC d)) (by row_hasAny ev) (fun z => ?_) (fun z => ?_)
    · have z := of_decide_eq_true z
      have e : doneW w d c = doneW v d c := by
        unfold doneW
        cases q : d.at c with
        | none =>
          exfalso
          have : ∀ l : List (Cl × Fm), c ∈ l.map (·.1) → lkF c l ≠ none := by
            intro l
            induction l with
            | nil => intro h; cases h
            | cons p r ih =>
              intro h
              show (if p.1 = c then some p.2 else lkF c r) ≠ none
              by_cases q : p.1 = c
              · rw [if_pos q]; exact fun z => nomatch z
              · rw [if_neg q]
                rw [List.map_cons, List.mem_cons] at h
                exact ih (h.resolve_left fun z => q z.symm)
          exact this d.parts z q
        | some f => exact worth_src q fun x hx => hr x hx
      rw [e] at z1
      exact wp_no (s1 := [eD d, eS w, eS v, eS (doneW w d), eS (doneW v d), .str (cl c)]) (t := false) (by row_hasAny ev) rfl (wp_nilT (wp_nilT (turn_nil ⟨_, rfl⟩)))
    · have z := of_decide_eq_false z
      rw [at_off z w] at z1
      exact wp_no (s1 := [eD d, eS w, eS v, eS (doneW w d), eS (doneW v d), .str (cl c)]) (t := false) (by row_hasAny ev) rfl (wp_nilT (wp_nilT (turn_nil ⟨_, rfl⟩)))
  · rintro s ⟨x, rfl⟩
    exact wp_ret e_kb ⟨rfl, rfl⟩
end T
end
section
set_option maxRecDepth 100000
namespace T
open PySem G
local macro_rules | `(tactic| row_hasAny fx) => `(tactic| fail)
local macro_rules | `(tactic| row_hasAny iff) => `(tactic| fail)
local macro_rules | `(tactic| row_hasAny lf) => `(tactic| with_reducible first | exact l_add _ _ | exact l_sub _ _ | exact pTup2 _ _ | exact l_lst rfl | exact l_eqi _ _ | exact l_nei _ _ | exact l_lti _ _ | exact l_lei _ _ | exact l_gti _ _ | exact l_gei _ _ | exact l_lenT _ | exact l_lenL _ | exact l_lenS _ | exact l_tupleL _ | exact l_ix0 _ _ | exact l_ix1 _ _ _ | exact l_ix2 _ _ _ _ | exact l_neg _ | exact pTup0 | exact pTup1 _ | exact pTup3 _ _ _ | exact l_tup rfl | exact pDk_sem | exact pDt_sem)
local macro_rules | `(tactic| row_hasAny fn) => `(tactic| with_reducible assumption)
local macro_rules | `(tactic| row_hasAny ev1) => `(tactic| first | row_hasAny fx | (with_reducible change evE _ _ = _; with_reducible first | apply e_var | apply ce_call | exact e_ki | exact e_ks | exact e_kb | exact e_kn | apply e_pr | apply e_meth | apply ce_chain | apply ce_not | apply ce_bool | apply ce_ife) | (with_reducible change evEs _ _ = _; with_reducible first | exact es_nil | apply es_cons) | (with_reducible change gt _ _ = _; with_reducible first | exact g_z | apply g_s) | (with_reducible change List.set _ _ _ = _; with_reducible first | exact st_z | apply st_s) | (with_reducible change evAs _ _ = _; with_reducible first | exact as_nil | apply as_val | apply as_lent) | (with_reducible change fill _ _ _ = _; with_reducible first | exact fl_nil | apply fl_val | apply fl_lent) | (with_reducible change putB _ _ _ = _; with_reducible first | exact pb_nil | apply pb_val | apply pb_lent) | (with_reducible change Pr.sem _ _ = _; first | row_hasAny lf | row_hasAny fn) | (with_reducible change Fn.sem _ _ = _; row_hasAny fn) | (with_reducible change bnd _ _ _ = _; with_reducible first | apply bd_name | apply bd_tup | apply bd_lst | apply bd_wtp) | (with_reducible change List.length _ = _; with_reducible first | exact le_z | apply le_s) | (with_reducible change _ < List.length _; with_reducible first | exact lt_z | apply lt_s) | (with_reducible change evT _ _ = _; with_reducible first | apply ct_var | apply t_pr | apply ct_call | apply ct_not | apply ct_bool | apply ct_chain | apply ct_meth) | (with_reducible change evBT _ _ _ = _; with_reducible first | apply tb_one | apply tb_and | apply tb_or) | (with_reducible change tru _ = _; with_reducible first | exact tru_bl _ | exact tru_int _ | exact tru_tup _ | exact tru_lst _) | (with_reducible change Wp _ _ _; first | (with_reducible first | apply wp_asg | apply wp_own | apply wp_par | apply wp_setIt | apply wp_app | apply wp_ext | apply wp_rem | apply wp_upd | apply wp_expr | apply wp_frz | apply wp_pass | apply wp_ret | apply wp_nilT) | row_hasAny iff) | (with_reducible first | apply cb_one | apply cb_and | apply cb_or | exact ts_nil | apply ts_one | exact bd_nil | apply bd_cons | exact wi_nil | apply wi_cons | exact ps_nil | apply ps_cons | apply or_f | exact or_lt _ _ | exact or_le _ _ | exact l_isLst _ | exact l_isDk _ | exact l_seqT _ | exact l_seqL _) | row_hasAny lf | row_hasAny fn | with_reducible rfl)
local macro_rules | `(tactic| row_hasAny ev) => `(tactic| repeat row_hasAny ev1)
/-! ### what is drawn: orders, forms, rows, stores -/
theorem pick_lstD (ns : List Int) (t : Nat) (xs : List D) (hx : xs ≠ []) (ht : t < 16777216) : ∃ x ∈ xs, f_law_pick.sem [.scr ns, tw t, .lst xs] = .ret x [tw (t + 1)] := by
  have h := pick_lst ns t xs hx ht
  have hp := pk_lt ns t (List.length_pos_iff.mpr hx)
  rw [List.getElem?_eq_getElem hp] at h
  exact ⟨_, List.getElem_mem hp, h⟩
theorem draw_ex (ns : List Int) (t : Nat) {m : Int} (hm : 0 < m) (ht : t < 16777216) : ∃ v : Int, 0 ≤ v ∧ v < m ∧ f_law_draw.sem [.scr ns, tw t, .int m] = .ret (.int v) [tw (t + 1)] :=
  ⟨_, draw_lo ns t hm, draw_hi ns t hm, draw_sem ns t m hm ht⟩
theorem erase_perm : ∀ (l : List D) (i : Nat) (h : i < l.length), (l[i] :: l.eraseIdx i).Perm l
  | [], i, h => absurd h (Nat.not_lt_zero _)
  | x :: l, 0, h => List.Perm.refl _
  | x :: l, i + 1, h => by
    have hi : i < l.length := Nat.lt_of_succ_lt_succ h
    have ih := erase_perm l i hi
    show (l[i] :: x :: l.eraseIdx i).Perm (x :: l)
    exact (List.Perm.swap x l[i] _).trans (ih.cons x)
theorem law_mixed_ex (ns : List Int) (t : Nat) (xs : List D) (X : D) (hX : pList.sem [X] = some (.lst xs)) (hl : t + xs.length < 16777000) : ∃ ys : List D, ys.Perm xs ∧ f_law_mixed.sem [.scr ns, tw t, X] = .ret (.lst ys) [tw (t + xs.length)] := by
  suffices h : ∃ ys : List D, ys.Perm xs ∧ Wp c_law_mixed [.scr ns, tw t, X, .non, .non] (retQ [1] (.lst ys) [tw (t + xs.length)]) by
    obtain ⟨ys, h1, h2⟩ := h
    exact ⟨ys, h1, fn_wp (n := 5) (ls := [1]) h2⟩
  suffices h : Wp c_law_mixed [.scr ns, tw t, X, .non, .non] (fun o => ∃ ys : List D, ys.Perm xs ∧ retQ [1] (.lst ys) [tw (t + xs.length)] o) by
    obtain ⟨ys, h1, h2⟩ := h
    exact ⟨ys, h1, h2⟩
  unfold c_law_mixed
  refine wp_par (s2 := [.scr ns, tw t, X, .lst xs, .lst []]) (es_cons (e_pr (es_cons (e_var rfl) es_nil) hX) (es_cons (e_pr es_nil (l_lst rfl)) es_nil)) rfl ?_
  refine wp_whl (fun n s => ∃ left got : List D, left.length = n ∧ (got ++ left).Perm xs ∧ got.length + n = xs.length ∧ s = [.scr ns, tw (t + got.length), X, .lst left, .lst got]) xs.length (by omega) ⟨xs, [], rfl, List.Perm.refl _, by simp, rfl⟩ ?_
  rintro n s ⟨left, got, hn, hp, hg, rfl⟩
  refine ⟨_, _, ct_var rfl (tru_lst left), fun hb => ?_, fun hb => ?_⟩
  · have : left = [] := by simpa using hb
    subst this
    refine wp_ret (e_var rfl) ⟨got, by simpa using hp, rfl, ?_⟩
    have e : got.length = xs.length := by simpa using hp.length_eq
    show [tw (t + got.length)] = _
    rw [e]
  · have hne : left ≠ [] := by rintro rfl; cases hb
    have hl0 := List.length_pos_iff.mpr hne
    obtain ⟨v, v0, v1, ed⟩ := draw_ex ns (t + got.length) (m := (left.length : Nat)) (by omega) (by omega)
    have hv : v.toNat < left.length := by omega
    have ev : v = ((v.toNat : Nat) : Int) := by omega
    rw [ev] at ed
    have hx : left[v.toNat]? = some left[v.toNat] := List.getElem?_eq_getElem hv
    unfold b_law_mixed_1
    refine wp_app (i := 4) (s2 := [.scr ns, tw (t + got.length + 1), X, .lst (left.eraseIdx v.toNat), .lst (got ++ [left[v.toNat]])]) rfl (l_isLst got) (ce_pop (s2 := [.scr ns, tw (t + got.length + 1), X, .lst (left.eraseIdx v.toNat), .lst got]) rfl (es_cons (ce_call (as_val (e_var rfl) (as_lent (as_val (e_pr (es_cons (e_var rfl) es_nil) (l_lenL left)) as_nil))) rfl ed rfl) es_nil) rfl (popL_at hx (by omega)) rfl) rfl (l_app (by omega)) rfl ?_
    refine turn_nil ?_
    refine ⟨n - 1, by omega, left.eraseIdx v.toNat, got ++ [left[v.toNat]], ?_, ?_, ?_, ?_⟩
    · rw [List.length_eraseIdx, if_pos hv, hn]
    · refine List.Perm.trans ?_ hp
      rw [List.append_assoc]
      refine List.Perm.append_left _ ?_
      exact erase_perm left v.toNat hv
    · rw [List.length_append, List.length_singleton]; omega
    · rw [List.length_append, List.length_singleton]; rfl
/-- a form drawn -/
structure FmOk (f : Fm) : Prop where
  num : f.num.natAbs ≤ 99
  co : ∀ c, (f.co c).natAbs ≤ 9
theorem FmOk.sm {f : Fm} (h : FmOk f) : f.sm 7 := ⟨by have := h.num; show _ < 128; omega, fun c => by have := h.co c; show _ < 128; omega⟩
def zs : List Str := ["ab", "cdef", "abcdefgh"]
theorem zs_pw : ∀ z ∈ zs, (chars z).Pairwise fun c d => strLe c d = true ∧ c ≠ d := by decide +kernel
theorem zs_sub : ∀ z ∈ zs, ∀ c ∈ chars z, c ∈ chars abc := by decide +kernel
theorem zs_len : ∀ z ∈ zs, 0 < (chars z).length ∧ (chars z).length ≤ 8 := by decide +kernel
theorem zs_size : ∀ z ∈ zs, z.length ≤ 8 := by decide +kernel
theorem fNum_b (ns : List Int) (T : Nat) : (fNum ns T).natAbs ≤ 99 := by
  have h1 := draw_lo ns T (m := 199) (by omega)
  have h2 := draw_hi ns T (m := 199) (by omega)
  have h := pk_lt ns (T + 1) (n := 6) (by omega)
  unfold fNum gi
  match pk ns (T + 1) 6, h with
  | 0, _ => show (0 : Int).natAbs ≤ 99; decide
  | 1, _ => show (0 : Int).natAbs ≤ 99; decide
  | 2, _ => show (1 : Int).natAbs ≤ 99; decide
  | 3, _ => show (99 : Int).natAbs ≤ 99; decide
  | 4, _ => show (-99 : Int).natAbs ≤ 99; decide
  | 5, _ => show (draw ns T 199 - 99).natAbs ≤ 99; omega
theorem law_form_exZ (ns : List Int) (t : Nat) {z : Str} (hz : z ∈ zs) (ht : t < 16775000) : ∃ (f : Fm) (t' : Nat), t' ≤ t + 27 ∧ FmOk f ∧ (∀ c, f.co c ≠ 0 → cl c ∈ chars z) ∧ f_law_form.sem [.scr ns, tw t, .str z] = .ret (eF f) [tw t'] := by
  have ok := formV_ok ns t (chars z) (zs_pw z hz)
  have zl := zs_len z hz
  have e := form_sem ns t z (by omega)
  have ks : KS (chars abc) (formV ns t (chars z)).2 := fun p hp => zs_sub z hz _ (ok.2.1 p hp)
  rw [← raw_of ok.nrm ks] at e
  refine ⟨ofRaw (formV ns t (chars z)), formT ns t (chars z), ?_, ⟨fNum_b ns _, fun c => ?_⟩, fun c hc => ?_, e⟩
  · have := fRun_t ns t (chars z)
    unfold formT
    omega
  · show (lk0 (cl c) (formV ns t (chars z)).2).natAbs ≤ 9
    by_cases h : lk0 (cl c) (formV ns t (chars z)).2 = 0
    · rw [h]; decide
    · exact (ok.2.2.1 _ (lk_mem2 (lk0_nz h))).2
  · exact ok.2.1 _ (lk_mem2 (lk0_nz hc))
theorem pick_str (ns : List Int) (t : Nat) {z : Str} (hz : z ∈ zs) (ht : t < 16777216) : ∃ c : Cl, cl c ∈ chars z ∧ f_law_pick.sem [.scr ns, tw t, .str z] = .ret (.str (cl c)) [tw (t + 1)] := by
  have zl := zs_len z hz
  have zz := zs_size z hz
  have hlen : (chars z).length = z.length := by unfold chars; rw [List.length_map]; rfl
  have hp := pk_lt ns t (n := z.length) (by omega)
  have hx : (chars z)[pk ns t z.length]? = some (chars z)[pk ns t z.length] := List.getElem?_eq_getElem (by omega)
  have hm : (chars z)[pk ns t z.length] ∈ chars z := List.getElem_mem _
  obtain ⟨c, hc⟩ := abc_cl (zs_sub z hz _ hm)
  refine ⟨c, by rw [hc]; exact hm, ?_⟩
  have e1 : lenS (.str z) = some (.int (z.length : Nat)) := by
    show (if z.length ≤ sizeLine then some (D.int (z.length : Nat)) else none) = _
    rw [sizeLine_eq, if_pos (by omega)]
  have e2 : ixS (.str z) (.int (pk ns t z.length : Nat)) = some (.str (cl c)) := by
    show (if z.length ≤ sizeLine then (L2.atI z.cps.toList _).map fun c => D.str ⟨#[c]⟩ else none) = _
    rw [sizeLine_eq, if_pos (by omega)]
    have h3 : z.cps.toList[pk ns t z.length]? = some (z.cps.toList[pk ns t z.length]'(by unfold chars at hlen; rw [List.length_map] at hlen; omega)) := List.getElem?_eq_getElem _
    rw [L2.atI_nat h3]
    have h4 : (chars z)[pk ns t z.length] = ⟨#[z.cps.toList[pk ns t z.length]'(by unfold chars at hlen; rw [List.length_map] at hlen; omega)]⟩ := by
      unfold chars
      rw [List.getElem_map]
    rw [hc, h4]
    rfl
  exact pick_gen ns t z.length (.str z) _ e1 (by omega) ht e2
end T
end
section
set_option maxRecDepth 100000
namespace T
open PySem G
local macro_rules | `(tactic| row_hasAny fx) => `(tactic| fail)
local macro_rules | `(tactic| row_hasAny iff) => `(tactic| fail)
local macro_rules | `(tactic| row_hasAny lf) => `(tactic| with_reducible first | exact l_add _ _ | exact l_sub _ _ | exact pTup2 _ _ | exact l_lst rfl | exact l_eqi _ _ | exact l_nei _ _ | exact l_lti _ _ | exact l_lei _ _ | exact l_gti _ _ | exact l_gei _ _ | exact l_lenT _ | exact l_lenL _ | exact l_lenS _ | exact l_tupleL _ | exact l_ix0 _ _ | exact l_ix1 _ _ _ | exact l_ix2 _ _ _ _ | exact l_neg _ | exact pTup0 | exact pTup1 _ | exact pTup3 _ _ _ | exact l_tup rfl | exact pDk_sem | exact pDt_sem)
local macro_rules | `(tactic| row_hasAny fn) => `(tactic| with_reducible assumption)
local macro_rules | `(tactic| row_hasAny ev1) => `(tactic| first | row_hasAny fx | (with_reducible change evE _ _ = _; with_reducible first | apply e_var | apply ce_call | exact e_ki | exact e_ks | exact e_kb | exact e_kn | apply e_pr | apply e_meth | apply ce_chain | apply ce_not | apply ce_bool | apply ce_ife) | (with_reducible change evEs _ _ = _; with_reducible first | exact es_nil | apply es_cons) | (with_reducible change gt _ _ = _; with_reducible first | exact g_z | apply g_s) | (with_reducible change List.set _ _ _ = _; with_reducible first | exact st_z | apply st_s) | (with_reducible change evAs _ _ = _; with_reducible first | exact as_nil | apply as_val | apply as_lent) | (with_reducible change fill _ _ _ = _; with_reducible first | exact fl_nil | apply fl_val | apply fl_lent) | (with_reducible change putB _ _ _ = _; with_reducible first | exact pb_nil | apply pb_val | apply pb_lent) | (with_reducible change Pr.sem _ _ = _; first | row_hasAny lf | row_hasAny fn) | (with_reducible change Fn.sem _ _ = _; row_hasAny fn) | (with_reducible change bnd _ _ _ = _; with_reducible first | apply bd_name | apply bd_tup | apply bd_lst | apply bd_wtp) | (with_reducible change List.length _ = _; with_reducible first | exact le_z | apply le_s) | (with_reducible change _ < List.length _; with_reducible first | exact lt_z | apply lt_s) | (with_reducible change evT _ _ = _; with_reducible first | apply ct_var | apply t_pr | apply ct_call | apply ct_not | apply ct_bool | apply ct_chain | apply ct_meth) | (with_reducible change evBT _ _ _ = _; with_reducible first | apply tb_one | apply tb_and | apply tb_or) | (with_reducible change tru _ = _; with_reducible first | exact tru_bl _ | exact tru_int _ | exact tru_tup _ | exact tru_lst _) | (with_reducible change Wp _ _ _; first | (with_reducible first | apply wp_asg | apply wp_own | apply wp_par | apply wp_setIt | apply wp_app | apply wp_ext | apply wp_rem | apply wp_upd | apply wp_expr | apply wp_frz | apply wp_pass | apply wp_ret | apply wp_nilT) | row_hasAny iff) | (with_reducible first | apply cb_one | apply cb_and | apply cb_or | exact ts_nil | apply ts_one | exact bd_nil | apply bd_cons | exact wi_nil | apply wi_cons | exact ps_nil | apply ps_cons | apply or_f | exact or_lt _ _ | exact or_le _ _ | exact l_isLst _ | exact l_isDk _ | exact l_seqT _ | exact l_seqL _) | row_hasAny lf | row_hasAny fn | with_reducible rfl)
local macro_rules | `(tactic| row_hasAny ev) => `(tactic| repeat row_hasAny ev1)
local macro_rules | `(tactic| row_hasAny fx) => `(tactic| with_reducible assumption)
/-! ### a row drawn -/
def names : List Str := ["a", "b", "bb", "c", "ft", "hed", "j", "mlsp", "q", "uvwy", "x", "zzzz"]
theorem names_ok : ∀ n ∈ names, PyData.strOk n = true := by decide +kernel
theorem names_nd : names.Nodup := by decide +kernel
theorem names_len : ∀ n ∈ names, n.length ≤ 4 := by decide +kernel
structure DrOk (d : Deed) : Prop where
  name : d.name ∈ names
  lo : 1 ≤ d.ticks
  hi : d.ticks ≤ 9
  up : (d.parts.map (·.1)).Pairwise (· < ·)
  fm : ∀ p ∈ d.parts, FmOk p.2
  ne : d.parts ≠ []
  few : d.parts.length ≤ 4
theorem DrOk.d {d : Deed} (h : DrOk d) : DOk 7 d := ⟨h.up, fun p hp => (h.fm p hp).sm⟩
structure RwOk (r : List Deed) (n : Nat) : Prop where
  len : r.length ≤ n
  nd : (r.map (·.name)).Nodup
  ds : ∀ d ∈ r, DrOk d
theorem RwOk.dok {r : List Deed} {n : Nat} (h : RwOk r n) : ∀ d ∈ r, DOk 7 d := fun d hd => (h.ds d hd).d
/-- the cells of one deed -/
theorem some_ex (ns : List Int) (t : Nat) {z : Str} (hz : z ∈ zs) (wide : Int) (h0 : 1 ≤ wide) (h4 : wide ≤ 4) (ht : t < 16775000) (a2 a4 a5 a6 a8 a9 b0 b1 : D) :
    ∃ l : List Cl, l.Nodup ∧ l ≠ [] ∧ l.length ≤ 4 ∧ (∀ c ∈ l, cl c ∈ chars z) ∧ evE (.pr pDict (.cons (.comp iRng1 (.cons (.var 7) .nil) (.name 10) .nil (.pr pTup (.cons (.call f_law_pick (.val (.var 0) (.lent 1 (.val (.var 3) .nil)))) (.cons (.pr (kPr (.int 0)) .nil) .nil))) [10]) .nil)) [.scr ns, tw t, a2, .str z, a4, a5, a6, .int wide, a8, a9, b0, b1] =
      .ok (encK (l.map fun c => (cl c, 0))) [.scr ns, tw (t + wide.toNat), a2, .str z, a4, a5, a6, .int wide, a8, a9, b0, b1] := by
  have hr : iRng1.sem [.int wide] = some ((List.range wide.toNat).map fun (i : Nat) => D.int (0 + (i : Int))) := by
    show (if wide.natAbs < 4611686018427387904 then some (rangeL 0 wide.toNat) else none) = _
    rw [if_pos (by omega)]
    rfl
  obtain ⟨acc, s', e, ls, e1, e2, e3, t', x, e4, e5⟩ := ce_compQ (P := iRng1) (cs := .cons (.var 7) .nil) (tg := .name 10) (ifs := .nil) (elt := .pr pTup (.cons (.call f_law_pick (.val (.var 0) (.lent 1 (.val (.var 3) .nil)))) (.cons (.pr (kPr (.int 0)) .nil) .nil))) (own := [10]) (s := [.scr ns, tw t, a2, .str z, a4, a5, a6, .int wide, a8, a9, b0, b1]) (fun (i : Nat) => D.int (0 + (i : Int)))
    (fun n acc s => ∃ ls : List Cl, acc = ls.map (fun c => encP (cl c, 0)) ∧ ls.length + n = wide.toNat ∧ (∀ c ∈ ls, cl c ∈ chars z) ∧ ∃ (t' : Nat) (x : D), t' + n = t + wide.toNat ∧ s = [.scr ns, tw t', a2, .str z, a4, a5, a6, .int wide, a8, a9, x, b1]) (es_cons (e_var rfl) es_nil) hr (by rw [List.length_range]; omega) ⟨[], rfl, by rw [List.length_range]; simp, (fun c hc => by cases hc), t, _, by rw [List.length_range], rfl⟩
    (by
      rintro n acc i s hi ⟨ls, rfl, e2, e3, t', y, e4, rfl⟩
      obtain ⟨c, hc, hp⟩ := pick_str ns t' hz (by omega)
      refine ⟨[.scr ns, tw t', a2, .str z, a4, a5, a6, .int wide, a8, a9, .int (0 + (i : Int)), b1], rfl, .inl ⟨_, [.scr ns, tw (t' + 1), a2, .str z, a4, a5, a6, .int wide, a8, a9, .int (0 + (i : Int)), b1], encP (cl c, 0), rfl, ?_, ls ++ [c], ?_, ?_, ?_, t' + 1, _, ?_, rfl⟩⟩
      · row_hasAny ev
        exact pTup2 _ _
      · rw [List.map_append]; rfl
      · rw [List.length_append, List.length_singleton]; omega
      · intro d hd
        rcases List.mem_append.mp hd with hd | hd
        · exact e3 d hd
        · rw [List.mem_singleton.mp hd]; exact hc
      · omega)
  subst e1 e5
  have et : t' = t + wide.toNat := by omega
  subst et
  have hm : (ls.map fun c => encP (cl c, 0)) = (ls.map fun c => (cl c, (0 : Int))).map encP := by rw [List.map_map]; rfl
  rw [hm] at e
  have hd := dict_lst (ls.map fun c => (cl c, (0 : Int)))
  have key : ∀ (ts : List Cl) (a : List Cl), a.Nodup → ∃ b : List Cl, b.Nodup ∧ mergeT (a.map fun c => (cl c, (0 : Int))) (ts.map fun c => (cl c, (0 : Int))) = b.map (fun c => (cl c, (0 : Int))) ∧ (∀ c, c ∈ b ↔ c ∈ ts ∨ c ∈ a) ∧ b.length ≤ a.length + ts.length := by
    intro ts
    induction ts with
    | nil => intro a ha; exact ⟨a, ha, rfl, fun c => by simp, by simp⟩
    | cons c r ih =>
      intro a ha
      have hput : ∃ a2 : List Cl, a2.Nodup ∧ putT (cl c) 0 (a.map fun c => (cl c, (0 : Int))) = a2.map (fun c => (cl c, (0 : Int))) ∧ (∀ d, d ∈ a2 ↔ d = c ∨ d ∈ a) ∧ a2.length ≤ a.length + 1 := by
        by_cases hc : c ∈ a
        · refine ⟨a, ha, ?_, fun d => ⟨.inr, fun h => h.elim (fun h => by rw [h]; exact hc) id⟩, by omega⟩
          unfold putT
          rw [if_pos ((any_key _ _).mpr ⟨(cl c, 0), List.mem_map_of_mem (f := fun c => (cl c, (0 : Int))) hc, rfl⟩), List.map_map]
          apply List.map_congr_left
          intro d _
          show (if cl d = cl c then (cl d, (0 : Int)) else (cl d, 0)) = (cl d, 0)
          split <;> rfl
        · refine ⟨a ++ [c], ?_, ?_, fun d => ?_, by simp⟩
          · rw [List.nodup_append]
            exact ⟨ha, by simp, fun x hx y hy e => hc (by rw [← List.mem_singleton.mp hy, ← e]; exact hx)⟩
          · unfold putT
            rw [if_neg, List.map_append]
            · rfl
            · intro z
              obtain ⟨p, hp, q⟩ := (any_key _ _).mp z
              obtain ⟨d, hd, rfl⟩ := List.mem_map.mp hp
              exact hc (by rw [← cl_inj q]; exact hd)
          · rw [List.mem_append, List.mem_singleton]
            exact ⟨fun h => h.elim .inr .inl, fun h => h.elim .inr .inl⟩
      obtain ⟨a2, h1, h2, h3, h4⟩ := hput
      obtain ⟨b, g1, g2, g3, g4⟩ := ih a2 h1
      refine ⟨b, g1, ?_, fun d => ?_, by rw [List.length_cons]; omega⟩
      · rw [List.map_cons]
        show mergeT (putT (cl c) 0 _) _ = _
        rw [h2]
        exact g2
      · rw [g3, h3, List.mem_cons]
        constructor
        · rintro (h | h | h)
          · exact .inl (.inr h)
          · exact .inl (.inl h)
          · exact .inr h
        · rintro ((h | h) | h)
          · exact .inr (.inl h)
          · exact .inl h
          · exact .inr (.inr h)
  obtain ⟨b, k1, k2, k3, k4⟩ := key ls [] List.nodup_nil
  have k2 : mergeT [] (ls.map fun c => (cl c, (0 : Int))) = b.map fun c => (cl c, (0 : Int)) := k2
  rw [k2] at hd
  refine ⟨b, k1, ?_, by simp at k4; omega, fun c hc => e3 c (((k3 c).mp hc).resolve_right fun z => by cases z), e_pr (es_cons e es_nil) hd⟩
  rintro rfl
  cases ls with
  | nil => simp at e2; omega
  | cons c r => exact absurd ((k3 c).mpr (.inl List.mem_cons_self)) (by simp)
theorem sort_K0 {l : List Cl} (nd : l.Nodup) (hl : l.length < 64) : pSorted.sem [encK (l.map fun c => (cl c, 0))] = some (.lst ((cls.filter fun c => decide (c ∈ l)).map fun c => .str (cl c))) := by
  have h := sort_enc (kvs := l.map fun c => (cl c, (0 : Int))) (by rw [List.length_map]; exact hl)
  have e : (l.map fun c => (cl c, (0 : Int))).map (·.1) = l.map cl := by rw [List.map_map]; rfl
  rw [e, sort_cells nd, List.map_map] at h
  exact h
/-- the parts of one deed -/
theorem parts_ex (ns : List Int) (t : Nat) {z : Str} (hz : z ∈ zs) {l : List Cl} (nd : l.Nodup) (ne : l ≠ []) (l4 : l.length ≤ 4) (ht : t < 16775000 - 300) (a2 a4 a5 a6 a7 a9 b0 b1 : D) :
    ∃ (ps : List (Cl × Fm)) (t' : Nat), t' ≤ t + 108 ∧ ps.map (·.1) = (cls.filter fun c => decide (c ∈ l)) ∧ (∀ p ∈ ps, FmOk p.2) ∧ evE (.pr pTuple (.cons (.comp iSeq (.cons (.pr pSorted (.cons (.var 8) .nil)) .nil) (.name 11) .nil (.pr pTup (.cons (.var 11) (.cons (.call f_law_form (.val (.var 0) (.lent 1 (.val (.var 3) .nil)))) .nil))) [11]) .nil)) [.scr ns, tw t, a2, .str z, a4, a5, a6, a7, encK (l.map fun c => (cl c, 0)), a9, b0, b1] =
      .ok (.tup (ps.map eP)) [.scr ns, tw t', a2, .str z, a4, a5, a6, a7, encK (l.map fun c => (cl c, 0)), a9, b0, b1] := by
  have fl : (cls.filter fun c => decide (c ∈ l)).length = l.length := by
    apply List.Perm.length_eq
    rw [List.perm_ext_iff_of_nodup (cls_nd.filter _) nd]
    intro c
    rw [List.mem_filter]
    exact ⟨fun h => of_decide_eq_true h.2, fun h => ⟨cls_all c, decide_eq_true h⟩⟩
  generalize hq : (cls.filter fun c => decide (c ∈ l)) = q at fl
  have hs := sort_K0 nd (by omega)
  rw [hq] at hs
  obtain ⟨acc, s', e, ps, pre, e1, e2, e0, e3, t', x, e4, e5⟩ := ce_compR (P := iSeq) (cs := .cons (.pr pSorted (.cons (.var 8) .nil)) .nil) (tg := .name 11) (ifs := .nil) (elt := .pr pTup (.cons (.var 11) (.cons (.call f_law_form (.val (.var 0) (.lent 1 (.val (.var 3) .nil)))) .nil))) (own := [11]) (s := [.scr ns, tw t, a2, .str z, a4, a5, a6, a7, encK (l.map fun c => (cl c, 0)), a9, b0, b1]) (xs := q) (fun c => D.str (cl c))
    (fun r acc s => ∃ (ps : List (Cl × Fm)) (pre : List Cl), acc = ps.map eP ∧ ps.map (·.1) = pre ∧ pre ++ r = q ∧ (∀ p ∈ ps, FmOk p.2) ∧ ∃ (t' : Nat) (x : D), t' + 27 * r.length ≤ t + 27 * q.length ∧ s = [.scr ns, tw t', a2, .str z, a4, a5, a6, a7, encK (l.map fun c => (cl c, 0)), a9, b0, x]) (es_cons (e_pr (es_cons (e_var rfl) es_nil) hs) es_nil) rfl (by omega) ⟨[], [], rfl, rfl, rfl, (fun p hp => by cases hp), t, _, by omega, rfl⟩
    (by
      rintro c r acc s ⟨ps, pre, rfl, e2, e0, e3, t', y, e4, rfl⟩
      rw [List.length_cons] at e4
      obtain ⟨f, t2, h1, h2, _, h3⟩ := law_form_exZ ns t' hz (by omega)
      refine ⟨[.scr ns, tw t', a2, .str z, a4, a5, a6, a7, encK (l.map fun c => (cl c, 0)), a9, b0, .str (cl c)], rfl, .inl ⟨_, [.scr ns, tw t2, a2, .str z, a4, a5, a6, a7, encK (l.map fun c => (cl c, 0)), a9, b0, .str (cl c)], eP (c, f), rfl, ?_, ps ++ [(c, f)], pre ++ [c], ?_, ?_, ?_, ?_, t2, _, ?_, rfl⟩⟩
      · row_hasAny ev
        exact pTup2 _ _
      · rw [List.map_append]; rfl
      · rw [List.map_append, e2]; rfl
      · rw [List.append_assoc]; exact e0
      · intro p hp
        rcases List.mem_append.mp hp with hp | hp
        · exact e3 p hp
        · rw [List.mem_singleton.mp hp]; exact h2
      · omega)
  subst e1 e5
  rw [List.append_nil] at e0
  rw [List.length_nil] at e4
  exact ⟨ps, t', by omega, by rw [e2, e0], e3, e_pr (es_cons e es_nil) rfl⟩
/-- one deed of the row -/
theorem row_body (ns : List Int) (t : Nat) {z : Str} (hz : z ∈ zs) (most : Int) (ys : List D) (r : List Deed) (k : Nat) {nm : Str} (hn : nm ∈ names) (hk : ys[k]? = some (.str nm)) (ht : t < 16700000) (hr : r.length < 1000) (a7 a8 a9 b0 b1 : D) (Q : SOut → Prop)
    (hQ : ∀ (d : Deed) (t' : Nat) (a7 a8 a9 b0 b1 : D), DrOk d → d.name = nm → t' ≤ t + 200 → Q (.nx [.scr ns, tw t', .int most, .str z, .lst ys, eR (r ++ [d]), .int k, a7, a8, a9, b0, b1])) :
    Wp b_law_row_1 [.scr ns, tw t, .int most, .str z, .lst ys, eR r, .int k, a7, a8, a9, b0, b1] Q := by
  obtain ⟨v, hv, c1⟩ := pick_lstD ns t [.int 1, .int 1, .int 1, .int 1, .int 2, .int 3, .int 4] (by simp) (by omega)
  have hw : ∃ w : Int, v = .int w ∧ 1 ≤ w ∧ w ≤ 4 := by
    simp only [List.mem_cons, List.not_mem_nil, or_false] at hv
    rcases hv with rfl | rfl | rfl | rfl | rfl | rfl | rfl <;> exact ⟨_, rfl, by decide, by decide⟩
  obtain ⟨w, rfl, w1, w2⟩ := hw
  obtain ⟨l, nd, ne, l4, hl, c2⟩ := some_ex ns (t + 1) hz w w1 w2 (by omega) (.int most) (.lst ys) (eR r) (.int k) a8 a9 b0 b1
  obtain ⟨ps, t', ht', hps, hfm, c3⟩ := parts_ex ns (t + 1 + w.toNat) hz nd ne l4 (by omega) (.int most) (.lst ys) (eR r) (.int k) (.int w) a9 b0 b1
  obtain ⟨u, u0, u1, c4⟩ := draw_ex ns t' (m := 9) (by omega) (by omega)
  have c5 : pIx.sem [.lst ys, .int k] = some (.str nm) := l_ixL (by omega) (by rw [Int.toNat_natCast]; exact hk)
  have c6 : pAdd.sem [eR r, .tup [.tup [.str nm, .int (1 + u), .tup (ps.map eP)]]] = some (eR (r ++ [⟨nm, 1 + u, ps⟩])) := l_eRcat (b := [⟨nm, 1 + u, ps⟩]) (by rw [List.length_singleton]; omega)
  unfold b_law_row_1
  row_hasAny ev
  have fl : (cls.filter fun c => decide (c ∈ l)).length = l.length := by
    apply List.Perm.length_eq
    rw [List.perm_ext_iff_of_nodup (cls_nd.filter _) nd]
    intro c
    rw [List.mem_filter]
    exact ⟨fun h => of_decide_eq_true h.2, fun h => ⟨cls_all c, decide_eq_true h⟩⟩
  have pl : ps.length = l.length := by
    rw [← fl, ← hps, List.length_map]
  refine hQ ⟨nm, 1 + u, ps⟩ _ _ _ _ _ _ ⟨hn, by show 1 ≤ 1 + u; omega, by show 1 + u ≤ 9; omega, ?_, hfm, ?_, by show ps.length ≤ 4; omega⟩ rfl (by omega)
  · show (ps.map (·.1)).Pairwise (· < ·)
    rw [hps]
    exact cls_lt.filter _
  · show ps ≠ []
    rintro rfl
    have := List.length_pos_iff.mpr ne
    simp at pl
    omega
theorem strs_perm : ∀ {ys : List D} {l : List Str}, ys.Perm (l.map .str) → ∃ m : List Str, ys = m.map .str ∧ m.Perm l := by
  intro ys l h
  have key : ∀ ys : List D, (∀ y ∈ ys, ∃ n, y = .str n) → ∃ m : List Str, ys = m.map .str := by
    intro ys
    induction ys with
    | nil => intro _; exact ⟨[], rfl⟩
    | cons y r ih =>
      intro hy
      obtain ⟨n, rfl⟩ := hy y List.mem_cons_self
      obtain ⟨m, rfl⟩ := ih fun z hz => hy z (List.mem_cons_of_mem _ hz)
      exact ⟨n :: m, rfl⟩
  obtain ⟨m, rfl⟩ := key ys fun y hy => by
    obtain ⟨n, _, e⟩ := List.mem_map.mp (h.mem_iff.mp hy)
    exact ⟨n, e.symm⟩
  refine ⟨m, rfl, ?_⟩
  have h2 := h.map (fun d : D => match d with | .str n => n | _ => (default : Str))
  rw [List.map_map, List.map_map] at h2
  have e : ∀ l : List Str, l.map ((fun d : D => match d with | .str n => n | _ => (default : Str)) ∘ D.str) = l := by
    intro l
    show l.map (fun n => n) = l
    exact List.map_id' l
  rw [e, e] at h2
  exact h2
theorem law_row_ex (ns : List Int) (t : Nat) (most : Nat) (hm : most ≤ 12) (ht : t < 16690000) : ∃ (r : List Deed) (t' : Nat), t' ≤ t + 2600 ∧ RwOk r most ∧ f_law_row.sem [.scr ns, tw t, .int most] = .ret (eR r) [tw t'] := by
  suffices h : Wp c_law_row [.scr ns, tw t, .int most, .non, .non, .non, .non, .non, .non, .non, .non, .non] (fun o => ∃ (r : List Deed) (t' : Nat), t' ≤ t + 2600 ∧ RwOk r most ∧ retQ [1] (eR r) [tw t'] o) by
    obtain ⟨r, t', h1, h2, h3⟩ := h
    exact ⟨r, t', h1, h2, fn_wp (n := 12) (ls := [1]) h3⟩
  obtain ⟨v, hv, c1⟩ := pick_lstD ns t [.str "ab", .str "cdef", .str "abcdefgh", .str "abcdefgh", .str "abcdefgh"] (by simp) (by omega)
  have hz : ∃ z ∈ zs, v = .str z := by
    simp only [List.mem_cons, List.not_mem_nil, or_false] at hv
    rcases hv with rfl | rfl | rfl | rfl | rfl <;> exact ⟨_, by simp [zs], rfl⟩
  obtain ⟨z, hz, rfl⟩ := hz
  obtain ⟨ys, hp, c2⟩ := law_mixed_ex ns (t + 1) (names.map .str) (.lst (names.map .str)) rfl (by show t + 1 + 12 < _; omega)
  obtain ⟨m, rfl, hm2⟩ := strs_perm hp
  have c2 : f_law_mixed.sem [.scr ns, tw (t + 1), .lst [.str "a", .str "b", .str "bb", .str "c", .str "ft", .str "hed", .str "j", .str "mlsp", .str "q", .str "uvwy", .str "x", .str "zzzz"]] = .ret (.lst (m.map .str)) [tw (t + 1 + 12)] := c2
  obtain ⟨u, u0, u1, c3⟩ := draw_ex ns (t + 1 + 12) (m := (most : Int) + 1) (by omega) (by omega)
  have ml : m.length = 12 := hm2.length_eq
  have mn : m.Nodup := hm2.nodup_iff.mpr names_nd
  have e0 : D.tup [] = eR [] := rfl
  unfold c_law_row
  row_hasAny ev
  rw [e0]
  have hr : iRng1.sem [.int u] = some ((List.range u.toNat).map fun (i : Nat) => D.int (0 + (i : Int))) := by
    show (if u.natAbs < 4611686018427387904 then some (rangeL 0 u.toNat) else none) = _
    rw [if_pos (by omega)]
    rfl
  refine wp_forR (xs := List.range u.toNat) (enc := fun (i : Nat) => D.int (0 + (i : Int))) (fun l s => ∃ (k : Nat) (r : List Deed) (t' : Nat) (a6 a7 a8 a9 b0 b1 : D), List.range k ++ l = List.range u.toNat ∧ r.length = k ∧ r.map (·.name) = m.take k ∧ (∀ d ∈ r, DrOk d) ∧ t' ≤ t + 13 + 1 + 200 * k ∧ s = [.scr ns, tw t', .int most, .str z, .lst (m.map .str), eR r, a6, a7, a8, a9, b0, b1])
    (es_cons (by row_hasAny ev) es_nil) hr ?_ ?_ ?_
  · exact ⟨0, [], t + 14, _, _, _, _, _, _, rfl, rfl, rfl, (fun d hd => by cases hd), by omega, rfl⟩
  · rintro i l s ⟨k, r, t', a6, a7, a8, a9, b0, b1, hl, hr, hn, hd, ht', rfl⟩
    have hlen := congrArg List.length hl
    rw [List.length_append, List.length_range, List.length_cons, List.length_range] at hlen
    have hk : i = k := by
      have h := congrArg (fun q => q[k]?) hl
      rw [List.getElem?_append_right (by rw [List.length_range]; omega), List.length_range, Nat.sub_self, List.getElem?_range (by omega)] at h
      exact Option.some.inj h
    subst hk
    have hi : i < m.length := by omega
    have hnm : m[i] ∈ names := hm2.mem_iff.mp (List.getElem_mem hi)
    have hyk : (m.map D.str)[i]? = some (.str m[i]) := by rw [List.getElem?_map, List.getElem?_eq_getElem hi]; rfl
    refine ⟨[.scr ns, tw t', .int most, .str z, .lst (m.map .str), eR r, .int (0 + (i : Int)), a7, a8, a9, b0, b1], rfl, ?_⟩
    rw [Int.zero_add]
    refine row_body ns t' hz most (m.map .str) r i hnm hyk (by omega) (by omega) a7 a8 a9 b0 b1 _ fun d t2 a7 a8 a9 b0 b1 h1 h2 h3 => ?_
    refine ⟨i + 1, r ++ [d], t2, _, _, _, _, _, _, ?_, by rw [List.length_append, hr]; rfl, ?_, ?_, by omega, rfl⟩
    · rw [List.range_succ, List.append_assoc]; exact hl
    · rw [List.map_append, hn, List.take_add_one, List.getElem?_eq_getElem hi, List.map_singleton, h2]
      rfl
    · intro e he
      rcases List.mem_append.mp he with he | he
      · exact hd e he
      · rw [List.mem_singleton.mp he]; exact h1
  · rintro s ⟨k, r, t', a6, a7, a8, a9, b0, b1, hl, hr, hn, hd, ht', rfl⟩
    have hlen := congrArg List.length hl
    rw [List.append_nil, List.length_range, List.length_range] at hlen
    refine wp_ret (e_var rfl) ⟨r, t', by omega, ⟨by omega, ?_, hd⟩, rfl, rfl⟩
    rw [hn]
    exact mn.sublist (List.take_sublist _ _)
end T
end
section
set_option maxRecDepth 100000
namespace T
open PySem G
local macro_rules | `(tactic| row_hasAny fx) => `(tactic| fail)
local macro_rules | `(tactic| row_hasAny iff) => `(tactic| fail)
local macro_rules | `(tactic| row_hasAny lf) => `(tactic| with_reducible first | exact l_add _ _ | exact l_sub _ _ | exact pTup2 _ _ | exact l_lst rfl | exact l_eqi _ _ | exact l_nei _ _ | exact l_lti _ _ | exact l_lei _ _ | exact l_gti _ _ | exact l_gei _ _ | exact l_lenT _ | exact l_lenL _ | exact l_lenS _ | exact l_tupleL _ | exact l_ix0 _ _ | exact l_ix1 _ _ _ | exact l_ix2 _ _ _ _ | exact l_neg _ | exact pTup0 | exact pTup1 _ | exact pTup3 _ _ _ | exact l_tup rfl | exact pDk_sem | exact pDt_sem)
local macro_rules | `(tactic| row_hasAny fn) => `(tactic| with_reducible assumption)
local macro_rules | `(tactic| row_hasAny ev1) => `(tactic| first | row_hasAny fx | (with_reducible change evE _ _ = _; with_reducible first | apply e_var | apply ce_call | exact e_ki | exact e_ks | exact e_kb | exact e_kn | apply e_pr | apply e_meth | apply ce_chain | apply ce_not | apply ce_bool | apply ce_ife) | (with_reducible change evEs _ _ = _; with_reducible first | exact es_nil | apply es_cons) | (with_reducible change gt _ _ = _; with_reducible first | exact g_z | apply g_s) | (with_reducible change List.set _ _ _ = _; with_reducible first | exact st_z | apply st_s) | (with_reducible change evAs _ _ = _; with_reducible first | exact as_nil | apply as_val | apply as_lent) | (with_reducible change fill _ _ _ = _; with_reducible first | exact fl_nil | apply fl_val | apply fl_lent) | (with_reducible change putB _ _ _ = _; with_reducible first | exact pb_nil | apply pb_val | apply pb_lent) | (with_reducible change Pr.sem _ _ = _; first | row_hasAny lf | row_hasAny fn) | (with_reducible change Fn.sem _ _ = _; row_hasAny fn) | (with_reducible change bnd _ _ _ = _; with_reducible first | apply bd_name | apply bd_tup | apply bd_lst | apply bd_wtp) | (with_reducible change List.length _ = _; with_reducible first | exact le_z | apply le_s) | (with_reducible change _ < List.length _; with_reducible first | exact lt_z | apply lt_s) | (with_reducible change evT _ _ = _; with_reducible first | apply ct_var | apply t_pr | apply ct_call | apply ct_not | apply ct_bool | apply ct_chain | apply ct_meth) | (with_reducible change evBT _ _ _ = _; with_reducible first | apply tb_one | apply tb_and | apply tb_or) | (with_reducible change tru _ = _; with_reducible first | exact tru_bl _ | exact tru_int _ | exact tru_tup _ | exact tru_lst _) | (with_reducible change Wp _ _ _; first | (with_reducible first | apply wp_asg | apply wp_own | apply wp_par | apply wp_setIt | apply wp_app | apply wp_ext | apply wp_rem | apply wp_upd | apply wp_expr | apply wp_frz | apply wp_pass | apply wp_ret | apply wp_nilT) | row_hasAny iff) | (with_reducible first | apply cb_one | apply cb_and | apply cb_or | exact ts_nil | apply ts_one | exact bd_nil | apply bd_cons | exact wi_nil | apply wi_cons | exact ps_nil | apply ps_cons | apply or_f | exact or_lt _ _ | exact or_le _ _ | exact l_isLst _ | exact l_isDk _ | exact l_seqT _ | exact l_seqL _) | row_hasAny lf | row_hasAny fn | with_reducible rfl)
local macro_rules | `(tactic| row_hasAny ev) => `(tactic| repeat row_hasAny ev1)
local macro_rules | `(tactic| row_hasAny fx) => `(tactic| with_reducible assumption)
theorem seq_cls : iSeq.sem [.str "abcdefgh"] = some (cls.map fun c => D.str (cl c)) := by
  rw [show (cls.map fun c => D.str (cl c)) = (chars abc).map D.str from by rw [← cls_abc, List.map_map]; rfl]
  exact seq_str abc
/-! ### a store drawn -/
theorem law_store_ex (ns : List Int) (t : Nat) (ht : t < 16700000) : ∃ w : Cl → Int, (∀ c, (w c).natAbs ≤ 1000) ∧ f_law_store.sem [.scr ns, tw t] = .ret (eS w) [tw (t + 8)] := by
  suffices h : Wp c_law_store [.scr ns, tw t, .non, .non, .non] (fun o => ∃ w : Cl → Int, (∀ c, (w c).natAbs ≤ 1000) ∧ retQ [1] (eS w) [tw (t + 8)] o) by
    obtain ⟨w, h1, h2⟩ := h
    exact ⟨w, h1, fn_wp (n := 5) (ls := [1]) h2⟩
  unfold c_law_store
  refine wp_asg (s2 := [.scr ns, tw t, encT [], .non, .non]) (e_pr es_nil pTup0) rfl ?_
  refine wp_forR (xs := cls) (enc := fun c => D.str (cl c)) (fun l s => ∃ (pre : List Cl) (w : Cl → Int) (x y : D), pre ++ l = cls ∧ (∀ c, (w c).natAbs ≤ 1000) ∧ s = [.scr ns, tw (t + pre.length), encT (pre.filterMap (tmF w)), x, y])
    (es_cons e_ks es_nil) seq_cls ⟨[], fun _ => 0, _, _, rfl, fun _ => Nat.zero_le _, rfl⟩ ?_ ?_
  · rintro c l s ⟨pre, w, x, y, hl, hw, rfl⟩
    have hlen := congrArg List.length hl
    have l8 : cls.length = 8 := rfl
    rw [List.length_append, List.length_cons, l8] at hlen
    obtain ⟨v, hv, c1⟩ := pick_lstD ns (t + pre.length) [.int 0, .int 0, .int 1, .int (-1), .int 5, .int 1000, .int (-77)] (by simp) (by omega)
    have hi : ∃ i : Int, v = .int i ∧ i.natAbs ≤ 1000 := by
      simp only [List.mem_cons, List.not_mem_nil, or_false] at hv
      rcases hv with rfl | rfl | rfl | rfl | rfl | rfl | rfl <;> exact ⟨_, rfl, by decide⟩
    obtain ⟨i, rfl, hi⟩ := hi
    have cn : c ∉ pre := by
      have nd := cls_nd
      rw [← hl, List.nodup_append] at nd
      intro h
      exact nd.2.2 c h c (by simp) rfl
    have e2 : (pre ++ [c]).filterMap (tmF fun d => if d = c then i else w d) = pre.filterMap (tmF w) ++ (if i = 0 then [] else [(cl c, i)]) := by
      rw [List.filterMap_append]
      congr 1
      · have cong : ∀ l : List Cl, c ∉ l → l.filterMap (tmF fun d => if d = c then i else w d) = l.filterMap (tmF w) := by
          intro l
          induction l with
          | nil => intro _; rfl
          | cons d r ih =>
            intro h
            rw [List.mem_cons] at h
            have e : tmF (fun d => if d = c then i else w d) d = tmF w d := by
              have e1 : (fun d => if d = c then i else w d) d = w d := if_neg fun z => h (.inl z.symm)
              unfold tmF
              rw [e1]
            rw [List.filterMap_cons, List.filterMap_cons, ih fun z => h (.inr z), e]
        exact cong pre cn
      · unfold tmF
        by_cases z : i = 0
        · simp [z]
        · simp [z]
    have len1 : (pre.filterMap (tmF w)).length ≤ 8 := Nat.le_trans (List.length_filterMap_le _ _) (by omega)
    have c2 : pAdd.sem [encT (pre.filterMap (tmF w)), if (!decide (i = 0)) = true then .tup [.tup [.str (cl c), .int i]] else .tup []] = some (encT ((pre ++ [c]).filterMap (tmF fun d => if d = c then i else w d))) := by
      rw [e2]
      by_cases z : i = 0
      · rw [if_neg (by simp [z]), if_pos z]
        show (if ((pre.filterMap (tmF w)).map encP).length + ([] : List D).length ≤ sizeLine then some (D.tup ((pre.filterMap (tmF w)).map encP ++ [])) else none) = _
        rw [sizeLine_eq, List.length_map, if_pos (by simp; omega), List.append_nil, List.append_nil]
        rfl
      · rw [if_pos (by simp [z]), if_neg z]
        show (if ((pre.filterMap (tmF w)).map encP).length + [D.tup [.str (cl c), .int i]].length ≤ sizeLine then some (D.tup ((pre.filterMap (tmF w)).map encP ++ [D.tup [.str (cl c), .int i]])) else none) = _
        rw [sizeLine_eq, List.length_map, if_pos (by simp; omega)]
        unfold encT
        rw [List.map_append]
        rfl
    refine ⟨[.scr ns, tw (t + pre.length), encT (pre.filterMap (tmF w)), .str (cl c), y], rfl, ?_⟩
    unfold b_law_store_1
    row_hasAny ev
    refine turn_nil ⟨pre ++ [c], (fun d => if d = c then i else w d), _, _, by rw [List.append_assoc]; exact hl, fun d => ?_, by rw [List.length_append]; rfl⟩
    show (if d = c then i else w d).natAbs ≤ 1000
    split
    · exact hi
    · exact hw d
  · rintro s ⟨pre, w, x, y, hl, hw, rfl⟩
    rw [List.append_nil] at hl
    subst hl
    exact wp_ret (e_var rfl) ⟨w, hw, rfl, rfl⟩
end T
end
section
set_option maxRecDepth 100000
set_option maxHeartbeats 0
namespace T
open PySem G
theorem cellL_mem {r : List Deed} {c : Cl} : c ∈ cellL r ↔ ∃ d ∈ r, c ∈ rdC d ∨ c ∈ wrC d := by
  unfold cellL
  rw [List.mem_flatMap]
  simp only [List.mem_append]
def useP (r : List Deed) (c : Cl) : Bool := !(whoL (rdsP c) r ++ whoL (wrsP c) r).isEmpty
theorem use_iff {r : List Deed} {c : Cl} : useP r c = true ↔ c ∈ cellL r := by
  unfold useP
  rw [cellL_mem, Bool.not_eq_true', Bool.eq_false_iff, ne_eq, List.isEmpty_iff]
  constructor
  · intro h
    have : ∃ i, i ∈ whoL (rdsP c) r ++ whoL (wrsP c) r := List.exists_mem_of_ne_nil _ h
    obtain ⟨i, hi⟩ := this
    rcases List.mem_append.mp hi with hi | hi
    · obtain ⟨d, hd, e⟩ := who_mem.mp hi
      exact ⟨d, List.mem_of_getElem? hd, .inl (of_decide_eq_true e)⟩
    · obtain ⟨d, hd, e⟩ := who_mem.mp hi
      exact ⟨d, List.mem_of_getElem? hd, .inr (of_decide_eq_true e)⟩
  · rintro ⟨d, hd, e⟩ h
    obtain ⟨i, hi⟩ := List.getElem?_of_mem hd
    have : i ∈ whoL (rdsP c) r ++ whoL (wrsP c) r := by
      rcases e with e | e
      · exact List.mem_append.mpr (.inl (who_mem.mpr ⟨d, hi, decide_eq_true e⟩))
      · exact List.mem_append.mpr (.inr (who_mem.mpr ⟨d, hi, decide_eq_true e⟩))
    rw [h] at this
    cases this
theorem use_filter (r : List Deed) : cls.filter (useP r) = upC (cellL r) := by
  unfold upC
  apply List.filter_congr
  intro c _
  rw [Bool.eq_iff_iff, decide_eq_true_eq]
  exact use_iff
theorem l_catNT (a b : List Nat) (h : a.length + b.length ≤ 1000000) : pAdd.sem [.tup (nD a), .tup (nD b)] = some (.tup (nD (a ++ b))) := by
  show (if (nD a).length + (nD b).length ≤ sizeLine then some (D.tup (nD a ++ nD b)) else none) = _
  unfold nD
  rw [sizeLine_eq, List.length_map, List.length_map, if_pos (by omega), List.map_append]
theorem tru_N (l : List Nat) : tru (.tup (nD l)) = some (!l.isEmpty) := by cases l <;> rfl
local macro_rules | `(tactic| row_hasAny fx) => `(tactic| fail)
local macro_rules | `(tactic| row_hasAny iff) => `(tactic| fail)
local macro_rules | `(tactic| row_hasAny lf) => `(tactic| with_reducible first | exact l_add _ _ | exact l_sub _ _ | exact pTup2 _ _ | exact l_lst rfl | exact l_eqi _ _ | exact l_nei _ _ | exact l_lti _ _ | exact l_lei _ _ | exact l_gti _ _ | exact l_gei _ _ | exact l_lenT _ | exact l_lenL _ | exact l_lenS _ | exact l_tupleL _ | exact l_ix0 _ _ | exact l_ix1 _ _ _ | exact l_ix2 _ _ _ _ | exact l_neg _ | exact pTup0 | exact pTup1 _ | exact pTup3 _ _ _ | exact l_tup rfl | exact pDk_sem | exact pDt_sem)
local macro_rules | `(tactic| row_hasAny fn) => `(tactic| with_reducible assumption)
local macro_rules | `(tactic| row_hasAny ev1) => `(tactic| first | row_hasAny fx | (with_reducible change evE _ _ = _; with_reducible first | apply e_var | apply ce_call | exact e_ki | exact e_ks | exact e_kb | exact e_kn | apply e_pr | apply e_meth | apply ce_chain | apply ce_not | apply ce_bool | apply ce_ife) | (with_reducible change evEs _ _ = _; with_reducible first | exact es_nil | apply es_cons) | (with_reducible change gt _ _ = _; with_reducible first | exact g_z | apply g_s) | (with_reducible change List.set _ _ _ = _; with_reducible first | exact st_z | apply st_s) | (with_reducible change evAs _ _ = _; with_reducible first | exact as_nil | apply as_val | apply as_lent) | (with_reducible change fill _ _ _ = _; with_reducible first | exact fl_nil | apply fl_val | apply fl_lent) | (with_reducible change putB _ _ _ = _; with_reducible first | exact pb_nil | apply pb_val | apply pb_lent) | (with_reducible change Pr.sem _ _ = _; first | row_hasAny lf | row_hasAny fn) | (with_reducible change Fn.sem _ _ = _; row_hasAny fn) | (with_reducible change bnd _ _ _ = _; with_reducible first | apply bd_name | apply bd_tup | apply bd_lst | apply bd_wtp) | (with_reducible change List.length _ = _; with_reducible first | exact le_z | apply le_s) | (with_reducible change _ < List.length _; with_reducible first | exact lt_z | apply lt_s) | (with_reducible change evT _ _ = _; with_reducible first | apply ct_var | apply t_pr | apply ct_call | apply ct_not | apply ct_bool | apply ct_chain | apply ct_meth) | (with_reducible change evBT _ _ _ = _; with_reducible first | apply tb_one | apply tb_and | apply tb_or) | (with_reducible change tru _ = _; with_reducible first | exact tru_bl _ | exact tru_int _ | exact tru_tup _ | exact tru_lst _) | (with_reducible change Wp _ _ _; first | (with_reducible first | apply wp_asg | apply wp_own | apply wp_par | apply wp_setIt | apply wp_app | apply wp_ext | apply wp_rem | apply wp_upd | apply wp_expr | apply wp_frz | apply wp_pass | apply wp_ret | apply wp_nilT) | row_hasAny iff) | (with_reducible first | apply cb_one | apply cb_and | apply cb_or | exact ts_nil | apply ts_one | exact bd_nil | apply bd_cons | exact wi_nil | apply wi_cons | exact ps_nil | apply ps_cons | apply or_f | exact or_lt _ _ | exact or_le _ _ | exact l_isLst _ | exact l_isDk _ | exact l_seqT _ | exact l_seqL _) | row_hasAny lf | row_hasAny fn | with_reducible rfl)
local macro_rules | `(tactic| row_hasAny ev) => `(tactic| repeat row_hasAny ev1)
local macro_rules | `(tactic| row_hasAny lf) => `(tactic| with_reducible first | exact l_eD0 _ | exact l_revR _ | exact q_neI _ | exact l_dictS _ | exact l_recvS _)
local macro_rules | `(tactic| row_hasAny fx) => `(tactic| with_reducible assumption)
local macro_rules | `(tactic| row_hasAny iff) => `(tactic| with_reducible apply wp_no)
theorem foldP_lk (w : Cl → Int) (c : Cl) : ∀ (l : List Cl) (t : Terms), ND t → lk0 (cl c) (l.foldl (fun a x => putT (cl x) (w x) a) t) = if c ∈ l then w c else lk0 (cl c) t
  | [], t, _ => by simp
  | x :: l, t, h => by
    rw [List.foldl_cons, foldP_lk w c l _ (putT_nd _ _ h), lk0_putT]
    by_cases z : c ∈ l
    · rw [if_pos z, if_pos (List.mem_cons_of_mem _ z)]
    · rw [if_neg z]
      by_cases e : c = x
      · subst e
        rw [if_pos rfl, if_pos List.mem_cons_self]
      · rw [if_neg (fun q => e (cl_inj q)), if_neg (fun q => (List.mem_cons.mp q).elim e z)]
theorem body26 (ns : List Int) (t : Nat) (ht : t < 16600000) (w : Cl → Int) (hw : ∀ c, sm 10 (w c)) (r : List Deed) (hr : RwOk r 10) {i : Nat} {d : Deed} (hi : r[i]? = some d) (a2 a5 a8 a9 : D) (Q : SOut → Prop)
    (hQ : ∀ a8 a9, Q (.nx [.scr ns, tw (t + 8), a2, eR r, eS w, a5, .int (i : Nat), eD d, a8, a9])) :
    Wp b_law_2 [.scr ns, tw t, a2, eR r, eS w, a5, .int (i : Nat), eD d, a8, a9] Q := by
  have hm : d ∈ r := List.mem_of_getElem? hi
  have d4 := (hr.ds d hm).few
  have k1 := number_of_sem hr.nd (fun d hd => names_ok _ (hr.ds d hd).name) hi
  obtain ⟨w2, hw2, c2⟩ := law_store_ex ns t (by omega)
  have hw2 : ∀ c, sm 10 (w2 c) := fun c => by have := hw2 c; show (w2 c).natAbs < 1024; omega
  have k2 := reads_sem d (by omega)
  have tl := terms_len w2
  unfold b_law_2
  refine wp_no (s1 := [.scr ns, tw t, a2, eR r, eS w, a5, .int (i : Nat), eD d, a8, a9]) (t := false) (by row_hasAny ev) rfl (wp_nilT ?_)
  refine wp_own (s1 := [.scr ns, tw (t + 8), a2, eR r, eS w, a5, .int (i : Nat), eD d, a8, a9]) (s2 := [.scr ns, tw (t + 8), a2, eR r, eS w, a5, .int (i : Nat), eD d, encK (terms w2), a9]) (d := encK (terms w2)) (by row_hasAny ev) rfl ?_
  refine wp_for (enc := fun c : Cl => D.str (cl c)) (xs := rdC d) (fun a x => putT (cl x) (w x) a) (fun n a s => a.length + n ≤ 16 ∧ ND a ∧ KS (chars abc) a ∧ ∃ x, s = [.scr ns, tw (t + 8), a2, eR r, eS w, a5, .int (i : Nat), eD d, encK a, x]) (terms w2) (s1 := [.scr ns, tw (t + 8), a2, eR r, eS w, a5, .int (i : Nat), eD d, encK (terms w2), a9]) (ds := [.tup (clD (rdC d))]) (by row_hasAny ev) rfl ⟨by have := upC_len (rdL d.parts); show (terms w2).length + (upC (rdL d.parts)).length ≤ 16; omega, (terms_nrm w2).nd, terms_ks w2, _, rfl⟩ ?_ ?_
  · rintro n a c s hc ⟨ha, nd, ks, x, rfl⟩
    have z1 := worth_at_sem w c
    have z2 := set_enc (cl c) (w c) a (by omega)
    have := putT_len (cl c) (w c) a
    refine ⟨[.scr ns, tw (t + 8), a2, eR r, eS w, a5, .int (i : Nat), eD d, encK a, .str (cl c)], rfl, ?_⟩
    unfold b_law_1
    row_hasAny ev
    exact turn_nil ⟨by omega, putT_nd _ _ nd, putT_ks ks (cl_abc c), _, rfl⟩
  · rintro s ⟨ha, nd, ks, x, rfl⟩
    generalize hW : (rdC d).foldl (fun a x => putT (cl x) (w x) a) (terms w2) = W at *
    have hlk : ∀ c, lk0 (cl c) W = if c ∈ rdC d then w c else w2 c := fun c => by
      rw [← hW, foldP_lk w c (rdC d) (terms w2) (terms_nrm w2).nd, terms_lk]
    have hk : ∀ c ∈ sortStr (W.map (·.1)), lk c W = some (lk0 c W) := fun c hc => by
      have hm : c ∈ W.map (·.1) := (List.mergeSort_perm _ _).mem_iff.mp hc
      obtain ⟨v, hv⟩ := lk_mem hm
      unfold lk0
      rw [hv]
      rfl
    have hlen : (sortStr (W.map (·.1))).length = W.length := by
      unfold sortStr
      rw [List.length_mergeSort, List.length_map]
    have ec := ce_comp (P := iSeq) (cs := .cons (.pr pSorted (.cons (.var 8) .nil)) .nil) (tg := .name 9) (ifs := .cons (.pr pNe (.cons (.pr pIx (.cons (.var 8) (.cons (.var 9) .nil))) (.cons (.pr (kPr (.int 0)) .nil) .nil))) .nil) (elt := .pr pTup (.cons (.var 9) (.cons (.pr pIx (.cons (.var 8) (.cons (.var 9) .nil))) .nil))) (own := [9]) (s := [.scr ns, tw (t + 8), a2, eR r, eS w, a5, .int (i : Nat), eD d, encK W, x]) (w := [.scr ns, tw (t + 8), a2, eR r, eS w, a5, .int (i : Nat), eD d, encK W, .non]) (xs := sortStr (W.map (·.1))) (enc := D.str) (p := fun c => !decide (lk0 c W = 0)) (g := fun c => encP (c, lk0 c W))
      (es_cons (e_pr (es_cons (e_var rfl) es_nil) (sort_enc (by omega))) es_nil) rfl (by rw [hlen]; omega) rfl (fun c hc => by
        have h1 : pIx.sem [encK W, .str c] = some (.int (lk0 c W)) := ix_enc (hk c hc)
        refine ⟨[.scr ns, tw (t + 8), a2, eR r, eS w, a5, .int (i : Nat), eD d, encK W, .str c], rfl, rfl, ?_, fun _ => ?_⟩
        · row_hasAny ev
        · row_hasAny ev
          exact pTup2 _ _)
    have e : ((sortStr (W.map (·.1))).filter fun c => !decide (lk0 c W = 0)).map (fun c => encP (c, lk0 c W)) = (termsOf W).map encP := by
      unfold termsOf
      generalize sortStr (W.map (·.1)) = l
      induction l with
      | nil => rfl
      | cons c r ih =>
        rw [List.filter_cons, List.filterMap_cons]
        by_cases z : lk0 c W = 0
        · rw [if_pos z]
          simp only [z, decide_true, Bool.not_true, Bool.false_eq_true, if_false]
          exact ih
        · rw [if_neg z]
          simp only [z, decide_false, Bool.not_false, if_true, List.map_cons]
          rw [ih]
    have e1 : termsOf W = terms (fun c => if c ∈ rdC d then w c else w2 c) := by
      rw [terms_of (termsOf_nrm nd) (termsOf_ks ks)]
      congr 1
      funext c
      rw [termsOf_lk nd, hlk]
    rw [e, e1] at ec
    have k3 := law_keeps_sem d w (fun c => if c ∈ rdC d then w c else w2 c) (hr.ds d hm).d (by omega) hw (fun c => by
      show sm 10 (if c ∈ rdC d then w c else w2 c)
      split
      · exact hw c
      · exact hw2 c) (fun c hc => (if_pos hc).symm)
    refine wp_asg (s2 := [.scr ns, tw (t + 8), a2, eR r, eS w, a5, .int (i : Nat), eD d, eS (fun c => if c ∈ rdC d then w c else w2 c), x]) (d := eS (fun c => if c ∈ rdC d then w c else w2 c)) (e_pr (P := pTuple) (es_cons ec es_nil) rfl) rfl ?_
    exact wp_no (s1 := [.scr ns, tw (t + 8), a2, eR r, eS w, a5, .int (i : Nat), eD d, eS (fun c => if c ∈ rdC d then w c else w2 c), x]) (t := !true) (by row_hasAny ev) rfl (wp_nilT (wp_nilT (hQ _ _)))
theorem round (ns : List Int) (t : Nat) (ht : t < 16500000) (a2 a3 a4 a5 a6 a7 a8 a9 : D) (Q : SOut → Prop)
    (hQ : ∀ (t' : Nat) (a3 a4 a5 a6 a7 a8 a9 : D), t' ≤ t + 2700 → Q (.nx [.scr ns, tw t', a2, a3, a4, a5, a6, a7, a8, a9])) :
    Wp b_law_3 [.scr ns, tw t, a2, a3, a4, a5, a6, a7, a8, a9] Q := by
  obtain ⟨r, t1, ht1, hr, c1⟩ := law_row_ex ns t 10 (by decide) (by omega)
  have c1 : f_law_row.sem [.scr ns, tw t, .int 10] = .ret (eR r) [tw t1] := c1
  have rl := hr.len
  have h8 : ∀ d ∈ r, d.parts.length ≤ 8 := fun d hd => Nat.le_trans (hr.ds d hd).few (by decide)
  have h4 : ∀ d ∈ r, d.parts.length ≤ 400 := fun d hd => Nat.le_trans (hr.ds d hd).few (by decide)
  obtain ⟨w, hw, c2⟩ := law_store_ex ns t1 (by omega)
  have hw : ∀ c, sm 10 (w c) := fun c => by have := hw c; show (w c).natAbs < 1024; omega
  have k1 := cells_of_sem r h8 (by omega)
  have k2 := cells_of_sem r.reverse (fun d hd => h8 d (List.mem_reverse.mp hd)) (by rw [List.length_reverse]; omega)
  have e2 : upC (cellL r.reverse) = upC (cellL r) := upC_congr fun c => by
    rw [cellL_mem, cellL_mem]
    exact ⟨fun ⟨d, h, e⟩ => ⟨d, List.mem_reverse.mp h, e⟩, fun ⟨d, h, e⟩ => ⟨d, List.mem_reverse.mpr h, e⟩⟩
  rw [e2] at k2
  have k3 := l_joinT (upC (cellL r)) (by have := upC_len (cellL r); omega)
  have k4 := l_neStr (txC_ok (upC (cellL r)))
  have k5 : pNe.sem [.tup (clD (upC (cellL r))), .tup (clD (upC (cellL r)))] = some (.bl false) := q_neC _
  unfold b_law_3
  refine wp_par (ds := [eR r, eS w]) (s1 := [.scr ns, tw (t1 + 8), a2, a3, a4, a5, a6, a7, a8, a9]) (s2 := [.scr ns, tw (t1 + 8), a2, eR r, eS w, a5, a6, a7, a8, a9]) (by row_hasAny ev) rfl ?_
  have kc := ce_compA (P := iSeq) (cs := .cons (.pr (kPr (.str "abcdefgh")) .nil) .nil) (tg := .name 9) (elt := .call f_law_is_right (.val (.var 3) (.val (.var 9) .nil))) (own := [9]) (s := [.scr ns, tw (t1 + 8), a2, eR r, eS w, a5, a6, a7, a8, a9]) (w := [.scr ns, tw (t1 + 8), a2, eR r, eS w, a5, a6, a7, a8, .non]) (xs := cls) (enc := fun c : Cl => .str (cl c)) (g := fun _ => .bl true)
    (es_cons e_ks es_nil) seq_cls (by decide) rfl (fun c hc => by
      have z := law_is_right_sem r c h4 (by omega)
      refine ⟨[.scr ns, tw (t1 + 8), a2, eR r, eS w, a5, a6, a7, a8, .str (cl c)], rfl, rfl, ?_⟩
      row_hasAny ev)
  refine wp_no (s1 := [.scr ns, tw (t1 + 8), a2, eR r, eS w, a5, a6, a7, a8, a9]) (t := !true) (ct_not (t_pr (es_cons kc es_nil) (l_allT _) (tru_bl _))) rfl (wp_nilT ?_)
  have kd := ce_comp (P := iSeq) (cs := .cons (.pr (kPr (.str "abcdefgh")) .nil) .nil) (tg := .name 9) (ifs := .cons (.pr pAdd (.cons (.call f_readers (.val (.var 3) (.val (.var 9) .nil))) (.cons (.call f_writers (.val (.var 3) (.val (.var 9) .nil))) .nil))) .nil) (elt := .var 9) (own := [9]) (s := [.scr ns, tw (t1 + 8), a2, eR r, eS w, a5, a6, a7, a8, a9]) (w := [.scr ns, tw (t1 + 8), a2, eR r, eS w, a5, a6, a7, a8, .non]) (xs := cls) (enc := fun c : Cl => .str (cl c)) (p := useP r) (g := fun c => .str (cl c))
    (es_cons e_ks es_nil) seq_cls (by decide) rfl (fun c hc => by
      have z1 := readers_sem r c h4 (by omega)
      have z2 := writers_sem r c h4 (by omega)
      have n1 := who_len (rdsP c) r
      have n2 := who_len (wrsP c) r
      have z3 := l_catNT (whoL (rdsP c) r) (whoL (wrsP c) r) (by omega)
      refine ⟨[.scr ns, tw (t1 + 8), a2, eR r, eS w, a5, a6, a7, a8, .str (cl c)], rfl, rfl, ?_, fun _ => e_var rfl⟩
      refine ts_one (t_pr (ds := [.tup (nD (whoL (rdsP c) r)), .tup (nD (whoL (wrsP c) r))]) (s1 := [.scr ns, tw (t1 + 8), a2, eR r, eS w, a5, a6, a7, a8, .str (cl c)]) ?_ z3 (tru_N _))
      row_hasAny ev)
  rw [use_filter] at kd
  refine wp_asg (s2 := [.scr ns, tw (t1 + 8), a2, eR r, eS w, .str (txC (upC (cellL r))), a6, a7, a8, a9]) (d := .str (txC (upC (cellL r)))) (e_meth e_ks (l_recvS _) (es_cons kd es_nil) (l_joinC _ (by have := upC_len (cellL r); omega))) rfl ?_
  refine wp_no (s1 := [.scr ns, tw (t1 + 8), a2, eR r, eS w, .str (txC (upC (cellL r))), a6, a7, a8, a9]) (t := false || false) (by row_hasAny ev) rfl (wp_nilT ?_)
  refine wp_forR (enc := fun p : Deed × Nat => .wtp [.int (p.2 : Nat), eD p.1]) (xs := r.zipIdx) (fun l s => ∃ (pre : List (Deed × Nat)) (t' : Nat) (a6 a7 a8 a9 : D), pre ++ l = r.zipIdx ∧ t' + 8 * l.length ≤ t1 + 8 + 8 * r.length ∧ s = [.scr ns, tw t', a2, eR r, eS w, .str (txC (upC (cellL r))), a6, a7, a8, a9])
    (es_cons (e_var rfl) es_nil) (enum_q r) ⟨[], t1 + 8, _, _, _, _, rfl, by rw [List.length_zipIdx]; omega, rfl⟩ ?_ ?_
  · rintro p l s ⟨pre, t', a6, a7, a8, a9, hp, hl, rfl⟩
    have hi : r[p.2]? = some p.1 := List.mem_zipIdx_iff_getElem?.mp (by rw [← hp]; simp)
    rw [List.length_cons] at hl
    refine ⟨[.scr ns, tw t', a2, eR r, eS w, .str (txC (upC (cellL r))), .int (p.2 : Nat), eD p.1, a8, a9], rfl, ?_⟩
    refine body26 ns t' (by omega) w hw r hr hi _ _ _ _ _ fun b8 b9 => ?_
    exact turn_nx ⟨pre ++ [p], t' + 8, _, _, _, _, by rw [List.append_assoc]; exact hp, by omega, rfl⟩
  · rintro s ⟨pre, t', a6, a7, a8, a9, hp, hl, rfl⟩
    exact hQ _ _ _ _ _ _ _ _ (by omega)
theorem rng_4 : iRng1.sem [.int 4] = some (([0, 1, 2, 3] : List Int).map D.int) := by rfl
theorem pure_law (ns : List Int) : ∃ o, f_law.sem [.scr ns] = .ret (.bl true) o := by
  refine ⟨_, fn_wp (n := 10) (ls := []) (o := []) ?_⟩
  show Wp c_law [.scr ns, .non, .non, .non, .non, .non, .non, .non, .non, .non] _
  unfold c_law
  refine wp_own (s2 := [.scr ns, tw 0, .non, .non, .non, .non, .non, .non, .non, .non]) (e_pr es_nil (l_lst rfl)) rfl ?_
  refine wp_for (enc := D.int) (fun (a : Unit) _ => a) (fun n _ s => ∃ (t : Nat) (a2 a3 a4 a5 a6 a7 a8 a9 : D), t + 2700 * n ≤ 10800 ∧ s = [.scr ns, tw t, a2, a3, a4, a5, a6, a7, a8, a9]) () (es_cons e_ki es_nil) rng_4 ⟨0, _, _, _, _, _, _, _, _, by decide, rfl⟩ ?_ ?_
  · rintro n _ x s hx ⟨t, a2, a3, a4, a5, a6, a7, a8, a9, ht, rfl⟩
    refine ⟨[.scr ns, tw t, .int x, a3, a4, a5, a6, a7, a8, a9], rfl, ?_⟩
    refine round ns t (by omega) _ _ _ _ _ _ _ _ _ ?_
    intro t' a3 a4 a5 a6 a7 a8 a9 h
    exact turn_nx ⟨t', _, _, _, _, _, _, _, _, by omega, rfl⟩
  · rintro s ⟨t, a2, a3, a4, a5, a6, a7, a8, a9, ht, rfl⟩
    exact wp_ret e_kb ⟨rfl, rfl⟩
end T
end
theorem PySem.Challenge.cw_sidedeeds_k26_whole_who_reads_and_writes_holds : PySem.Challenge.rw_sidedeeds_k26_whole_who_reads_and_writes.Holds := by
  exact law_holds_of fun ns hn => T.pure_law ns
